import PyProof.Rows.All
import PyProof.EqLayable
import PyProof.StrBlockL
import KE.IntText
import HandS.ForMost
import HandS.ForExc
import HandS.Lambda
import HandS.Wide
import HandS.IsInst
import HandS.TupAny
import HandS.TupMul
import HandS.Rev
import HandS.Conv
import HandS.ExcInit
import HandS.ExcValue
import HandS.Deep
import HandS.ExcCtx
import HandS.Defaults
import PyProof.StrOps2
import PyProof.FitsStr
import PyProof.Rows.IntBool
import PyProof.CallStr
import HandS.Flow
import HandS.SortInts
import HandS.RaiseMore
import HandS.Style
import HandS.NoneIn
import HandS.Zip
import HandS.HotCalls
import HandS.ExcIs
import KE.GoesEnum
import HandS.SetBool
import PyProof.Rows.SetFrom
import PyProof.SetRoads
import HandS.CallLocal
import KE.KRevSl
import HandS.Property
import KE.DataMinMax
import KE.DataCmp
import HandS.HeadHook4
import HandS.HeadWalk
import HandS.HeadEnd
import KE.KExcSuper
import KE.KExcIs
import KE.KExcStr
import HandS.ExcField
import KE.KOpsOwn
import HandS.Star
import HandS.SlotsOwn
import PyProof.InstNe
import HandS.ClsMeth
import PySem.Challenge.RW_metagain_k14_changes_as_values
import HandS.Head0
import HandS.Head1
import HandS.Head2
import HandS.Codes
set_option Elab.async false
set_option linter.all false
/-! The mirror's language: what the pieces of a def do to plain data; no machine here. -/
namespace Mi
open PySem
abbrev D := PyData
/-- what a name holds: plain data; a list (or an object) of one's own that may change; a def or a class of the text; an error that was caught, at that address; an error that nobody raised (its class, what it was made of), a list of such -/
inductive Xy where
  | msg (m : Str) | lim (d : D)
inductive W where
  | d (d : D) | m (k : Nat) | f (x : Str) | x (a : Nat) | e (c : Str) (y : Xy) | es (l : List (Str × Xy))
inductive Cell where
  | lst (l : List D) | ins (c : Str) (fs : List (Str × D))
abbrev Sto := List (Option Cell)
structure Exn where
  cls : Str
  arg : Option D := none
inductive R (α : Type) where
  | ok (a : α) (μ : Sto) | er (x : Exn) (μ : Sto) | no
def R.bind {α β : Type} (r : R α) (f : α → Sto → R β) : R β := match r with
  | .ok a μ => f a μ
  | .er x μ => .er x μ
  | .no => .no
@[simp] theorem R.bind_ok {α β : Type} (a : α) (μ : Sto) (f : α → Sto → R β) : (R.ok a μ).bind f = f a μ := rfl
@[simp] theorem R.bind_er {α β : Type} (x : Exn) (μ : Sto) (f : α → Sto → R β) : (R.er x μ : R α).bind f = .er x μ := rfl
@[simp] theorem R.bind_no {α β : Type} (f : α → Sto → R β) : (R.no : R α).bind f = .no := rfl
/-- an option as a result -/
def ofO {α : Type} (o : Option α) (μ : Sto) : R α := match o with
  | some a => .ok a μ
  | none => .no
@[simp] theorem ofO_some {α : Type} (a : α) (μ : Sto) : ofO (some a) μ = .ok a μ := rfl
@[simp] theorem ofO_none {α : Type} (μ : Sto) : ofO (none : Option α) μ = .no := rfl
abbrev Env := List (Option W)
abbrev EF := Env → Sto → R W
abbrev AF := Env → Sto → R (List W)
abbrev GF := List W → Sto → R W
inductive RS where
  | nx (ρ : Env) (μ : Sto) | rt (w : W) (μ : Sto) | bk (ρ : Env) (μ : Sto) | ct (ρ : Env) (μ : Sto) | er (x : Exn) (μ : Sto) | no
abbrev SF := Env → Sto → RS
def R.bindS {α : Type} (r : R α) (f : α → Sto → RS) : RS := match r with
  | .ok a μ => f a μ
  | .er x μ => .er x μ
  | .no => .no
@[simp] theorem R.bindS_ok {α : Type} (a : α) (μ : Sto) (f : α → Sto → RS) : (R.ok a μ).bindS f = f a μ := rfl
@[simp] theorem R.bindS_er {α : Type} (x : Exn) (μ : Sto) (f : α → Sto → RS) : (R.er x μ : R α).bindS f = .er x μ := rfl
@[simp] theorem R.bindS_no {α : Type} (f : α → Sto → RS) : (R.no : R α).bindS f = .no := rfl

/-- one's own list of that number -/
def mlist (μ : Sto) (k : Nat) : Option (List D) := match μ[k]? with
  | some (some (.lst l)) => some l
  | _ => none
/-- the data that a value shows now -/
def view (μ : Sto) : W → Option D
  | .d d => some d
  | .m k => (mlist μ k).map .list
  | .f _ => none
  | .x _ => none
  | .e _ _ => none
  | .es _ => none
@[simp] theorem view_d (μ : Sto) (d : D) : view μ (.d d) = some d := rfl
def asDs : List W → Option (List D)
  | [] => some []
  | .d d :: r => (asDs r).map (d :: ·)
  | _ :: _ => none
def views (μ : Sto) : List W → Option (List D)
  | [] => some []
  | w :: r => (view μ w).bind fun d => (views μ r).map (d :: ·)
@[simp] theorem asDs_nil : asDs [] = some [] := rfl
@[simp] theorem asDs_cons (d : D) (r : List W) : asDs (.d d :: r) = (asDs r).map (d :: ·) := rfl

/-! ### expressions -/
def eVar (i : Nat) : EF := fun ρ μ => match ρ[i]? with
  | some (some w) => .ok w μ
  | _ => .no
def eC (d : D) : EF := fun _ μ => .ok (.d d) μ
def eInt (i : Int) : EF := eC (.int i)
def eStr (x : Str) : EF := eC (.str x)
def eBl (b : Bool) : EF := eC (.bool b)
def eNon : EF := eC .none
def eFn (x : Str) : EF := fun _ μ => .ok (.f x) μ
/-- an operator on two values -/
def eOp (op : D → D → Option D) (f g : EF) : EF := fun ρ μ => (f ρ μ).bind fun a μ1 => (g ρ μ1).bind fun b μ2 =>
  ofO ((view μ2 a).bind fun x => (view μ2 b).bind fun y => (op x y).map W.d) μ2
def eUn (op : D → Option D) (f : EF) : EF := fun ρ μ => (f ρ μ).bind fun a μ1 =>
  ofO ((view μ1 a).bind fun x => (op x).map W.d) μ1
def aNil : AF := fun _ μ => .ok [] μ
def aCons (f : EF) (r : AF) : AF := fun ρ μ => (f ρ μ).bind fun a μ1 => (r ρ μ1).bind fun as μ2 => .ok (a :: as) μ2
def eTup (a : AF) : EF := fun ρ μ => (a ρ μ).bind fun ws μ1 => ofO ((asDs ws).map fun ds => W.d (.tuple ds)) μ1
def eLst (a : AF) : EF := fun ρ μ => (a ρ μ).bind fun ws μ1 => ofO ((asDs ws).map fun ds => W.d (.list ds)) μ1
/-- a list that will be changed -/
def eLstM (a : AF) : EF := fun ρ μ => (a ρ μ).bind fun ws μ1 => match asDs ws with
  | some ds => .ok (.m μ1.length) (μ1 ++ [some (.lst ds)])
  | none => .no
def eCall (g : GF) (a : AF) : EF := fun ρ μ => (a ρ μ).bind g
/-- a builtin's call, by what its arguments show -/
def eBlt (h : List D → Option D) (a : AF) : EF := fun ρ μ => (a ρ μ).bind fun ws μ1 => ofO ((views μ1 ws).bind fun ds => (h ds).map W.d) μ1
def isB : W → Option Bool
  | .d (.bool b) => some b
  | _ => none
@[simp] theorem isB_d (b : Bool) : isB (.d (.bool b)) = some b := rfl
/-- behind a test -/
def R.test (r : R W) (f : Bool → Sto → R W) : R W := r.bind fun w μ => match isB w with
  | some b => f b μ
  | none => .no
@[simp] theorem R.test_ok (b : Bool) (μ : Sto) (f : Bool → Sto → R W) : (R.ok (.d (.bool b)) μ).test f = f b μ := rfl
@[simp] theorem R.test_er (x : Exn) (μ : Sto) (f : Bool → Sto → R W) : (R.er x μ : R W).test f = .er x μ := rfl
def eAnd (f g : EF) : EF := fun ρ μ => (f ρ μ).test fun b μ1 => if b = true then g ρ μ1 else .ok (.d (.bool false)) μ1
def eOr (f g : EF) : EF := fun ρ μ => (f ρ μ).test fun b μ1 => if b = true then .ok (.d (.bool true)) μ1 else g ρ μ1
def eNot (f : EF) : EF := fun ρ μ => (f ρ μ).test fun b μ1 => .ok (.d (.bool (!b))) μ1
def eIf (c f g : EF) : EF := fun ρ μ => (c ρ μ).test fun b μ1 => if b = true then f ρ μ1 else g ρ μ1
/-- a op b op' c -/
def eChain (op op' : D → D → Option D) (f g h : EF) : EF := fun ρ μ => (f ρ μ).bind fun a μ1 => (g ρ μ1).bind fun b μ2 =>
  (ofO ((view μ2 a).bind fun x => (view μ2 b).bind fun y => (op x y).map W.d) μ2).test fun k μ3 => if k = true then
    (h ρ μ3).bind fun c μ4 => ofO ((view μ4 b).bind fun x => (view μ4 c).bind fun y => (op' x y).map W.d) μ4
  else .ok (.d (.bool false)) μ3
def isNonW : W → Bool
  | .d .none => true
  | _ => false
def eIsN (f : EF) : EF := fun ρ μ => (f ρ μ).bind fun a μ1 => .ok (.d (.bool (isNonW a))) μ1
def eNotN (f : EF) : EF := fun ρ μ => (f ρ μ).bind fun a μ1 => .ok (.d (.bool (!isNonW a))) μ1
/-- a slice -/
def ePart (o : Option EF) : Env → Sto → R (Option Int) := fun ρ μ => match o with
  | none => .ok none μ
  | some f => (f ρ μ).bind fun w μ1 => match w with
    | .d (.int i) => .ok (some i) μ1
    | _ => .no
def eSl (cut : D → Option Int → Option Int → Option D) (f : EF) (lo hi : Option EF) : EF := fun ρ μ => (f ρ μ).bind fun a μ1 =>
  (ePart lo ρ μ1).bind fun l μ2 => (ePart hi ρ μ2).bind fun h μ3 => ofO ((view μ3 a).bind fun x => (cut x l h).map W.d) μ3

/-! ### operators -/
def LIM : Nat := 1000000
def bI (b : Bool) : Int := if b = true then (1 : Int) else 0
def dAdd : D → D → Option D
  | .int a, .int b => some (.int (a + b))
  | .bool a, .int b => some (.int (bI a + b))
  | .str a, .str b => if a.length + b.length ≤ LIM then some (.str (a ++ b)) else none
  | .list a, .list b => if a.length + b.length ≤ LIM then some (.list (a ++ b)) else none
  | .tuple a, .tuple b => if a.length + b.length ≤ LIM then some (.tuple (a ++ b)) else none
  | _, _ => none
def dSub : D → D → Option D
  | .int a, .int b => some (.int (a - b))
  | .bool a, .int b => some (.int (bI a - b))
  | _, _ => none
/-- a product that the machine takes -/
def mulOk (a b : Int) : Prop := (a.natAbs < 2 ^ 64 ∨ b.natAbs < 2 ^ 64) ∨ (a.natAbs < 2 ^ 1000 ∧ b.natAbs < 2 ^ 1000)
instance (a b : Int) : Decidable (mulOk a b) := by unfold mulOk; infer_instance
def dMul : D → D → Option D
  | .int a, .int b => if mulOk a b then some (.int (a * b)) else none
  | .list a, .int n => if 0 ≤ n ∧ n ≤ 1000 ∧ a.length ≤ 1000 then some (.list (List.replicate n.toNat a).flatten) else none
  | .tuple a, .int n => if 2 ≤ n ∧ n ≤ 1000 ∧ a.length ≤ 1000 ∧ a ≠ [] then some (.tuple (List.replicate n.toNat a).flatten) else none
  | .str a, .int n => if 2 ≤ n ∧ n ≤ 1000 ∧ 1 ≤ a.length ∧ a.length ≤ 1000 then some (.str ⟨(List.replicate n.toNat a.cps).foldl (· ++ ·) #[]⟩) else none
  | _, _ => none
def divOk (b : Int) : Prop := 0 < b ∧ b < 2 ^ 1000
instance (b : Int) : Decidable (divOk b) := by unfold divOk; infer_instance
def divNeg (b : Int) : Prop := b < 0 ∧ b.natAbs < 2 ^ 1000
instance (b : Int) : Decidable (divNeg b) := by unfold divNeg; infer_instance
def dDiv : D → D → Option D
  | .int a, .int b => if divOk b then some (.int (a / b)) else if divNeg b then some (.int (a.fdiv b)) else none
  | _, _ => none
def dMod : D → D → Option D
  | .int a, .int b => if 0 < b then some (.int (a % b)) else if b < 0 then some (.int (a.fmod b)) else none
  | _, _ => none
def dPow : D → D → Option D
  | .int a, .int b => if 0 ≤ b ∧ b ≤ 1000 ∧ a.natAbs < 2 ^ 64 then some (.int (a ^ b.toNat)) else none
  | _, _ => none
def dNeg : D → Option D
  | .int a => some (.int (-a))
  | .bool a => some (.int (-(bI a)))
  | _ => none
def cmpI (p : Int → Int → Bool) : D → D → Option D
  | .int a, .int b => some (.bool (p a b))
  | _, _ => none
def dLt := cmpI fun a b => decide (a < b)
def dLe := cmpI fun a b => decide (a ≤ b)
def dGt := cmpI fun a b => decide (b < a)
def dGe := cmpI fun a b => decide (b ≤ a)
def dEq (a b : D) : Option D := if SeqAt.shaped a = true ∧ SeqAt.shaped b = true then some (.bool (PyData.eqv a b)) else none
def dNe (a b : D) : Option D := if SeqAt.shaped a = true ∧ SeqAt.shaped b = true then some (.bool (!PyData.eqv a b)) else none
def dIsB : D → D → Option D
  | .bool a, .bool b => some (.bool (a == b))
  | _, _ => none
def dIsNotB : D → D → Option D
  | .bool a, .bool b => some (.bool (a != b))
  | _, _ => none
def flatD : D → Bool
  | .none => true
  | .bool _ => true
  | .int _ => true
  | .str _ => true
  | _ => false
/-- x in xs, of flat things; a sign in a text -/
def dIn : D → D → Option D
  | x, .list l => if flatD x = true ∧ l.all flatD = true then some (.bool (l.any fun y => PyData.eqv y x)) else none
  | x, .tuple l => if flatD x = true ∧ l.all flatD = true then some (.bool (l.any fun y => PyData.eqv y x)) else none
  | .str x, .str y => if x.cps.size = 1 then some (.bool (decide (x.cps.getD 0 0 ∈ y.cps.toList))) else none
  | _, _ => none
def dNotIn (x y : D) : Option D := match dIn x y with
  | some (.bool b) => some (.bool (!b))
  | _ => none
/-- an item -/
def ixI (n : Nat) (i : Int) : Option Nat := if 0 ≤ i then (if i < n then some i.toNat else none) else (if -(n : Int) ≤ i then some (i + n).toNat else none)
def dIx : D → D → Option D
  | .list l, .int i => (ixI l.length i).bind fun k => l[k]?
  | .tuple l, .int i => (ixI l.length i).bind fun k => l[k]?
  | _, _ => none
def six (n d : Nat) : Option Int → Nat
  | none => d
  | some v => if v < 0 then (v + (n : Int)).toNat else min v.toNat n
def cutL {α : Type} (l : List α) (lo hi : Option Int) : List α := (l.drop (six l.length 0 lo)).take (six l.length l.length hi - six l.length 0 lo)
def cutT (z : Str) (lo hi : Option Int) : Str := ⟨(cutL z.cps.toList lo hi).toArray⟩
def dCut : D → Option Int → Option Int → Option D
  | .str z, lo, hi => if z.length ≤ LIM then some (.str (cutT z lo hi)) else none
  | .list l, lo, hi => some (.list (cutL l lo hi))
  | .tuple l, lo, hi => some (.tuple (cutL l lo hi))
  | _, _, _ => none
def dRevL : D → Option D
  | .list l => some (.list l.reverse)
  | _ => none
def dRev : D → Option D
  | .list l => some (.list l.reverse)
  | .tuple l => some (.tuple l.reverse)
  | _ => none

/-! ### builtins -/
def bLen : List D → Option D
  | [.list l] => some (.int l.length)
  | [.tuple l] => some (.int l.length)
  | [.str x] => if x.length ≤ LIM then some (.int x.length) else none
  | _ => none
def bMax2 : List D → Option D
  | [.int a, .int b] => some (.int (if b > a then b else a))
  | _ => none
def bMin2 : List D → Option D
  | [.int a, .int b] => some (.int (if b < a then b else a))
  | _ => none
def bInt : List D → Option D
  | [.int a] => some (.int a)
  | [.str a] => (PySem.intText? a).bind fun n => if a.length ≤ 640 then some (.int n) else none
  | [.bool b] => some (.int (if b then 1 else 0))
  | _ => none
def bStr : List D → Option D
  | [.int i] => if i.natAbs.log2 < 1920 then some (.str (toString i)) else none
  | [.str a] => some (.str a)
  | [.bool b] => some (.str (if b then "True" else "False"))
  | _ => none
/-- what a value is worth as a test -/
def truD : D → Option Bool
  | .none => some false
  | .bool b => some b
  | .int i => some (i != 0)
  | .str x => if x.length ≤ LIM then some ((x.length : Int) != 0) else none
  | .list l => some (!l.isEmpty)
  | .tuple l => some (!l.isEmpty)
  | _ => none
def eNotT (f : EF) : EF := eUn (fun d => (truD d).map fun b => .bool (!b)) f
def intsOf : List D → Option (List Int)
  | [] => some []
  | .int x :: r => (intsOf r).map (x :: ·)
  | _ :: _ => none
def insI (x : Int) : List Int → List Int
  | [] => [x]
  | y :: r => if x ≤ y then x :: y :: r else y :: insI x r
def isort : List Int → List Int
  | [] => []
  | x :: r => insI x (isort r)
def minI : Int → List Int → Int
  | a, [] => a
  | a, b :: r => minI (if b < a then b else a) r
/-- the least of a list -/
def bMin1 : List D → Option D
  | [.list l] => (intsOf l).bind fun ns => match ns with
    | [] => none
    | a :: r => some (.int (minI a r))
  | _ => none
def bSorted : List D → Option D
  | [.list l] => (intsOf l).map fun ns => .list ((isort ns).map .int)
  | _ => none
def bAbs : List D → Option D
  | [.int a] => some (.int (if a < 0 then -a else a))
  | _ => none
def allB : List D → Option Bool
  | [] => some true
  | .bool b :: r => (allB r).map (b && ·)
  | _ :: _ => none
def bAll : List D → Option D
  | [.list l] => (allB l).map .bool
  | _ => none
def bTup : List D → Option D
  | [.list l] => some (.tuple l)
  | [.tuple l] => some (.tuple l)
  | _ => none
def bLst : List D → Option D
  | [.list l] => some (.list l)
  | [.tuple l] => some (.list l)
  | _ => none
def sumI : List D → Option Int
  | [] => some 0
  | .int i :: r => (sumI r).map (i + ·)
  | _ :: _ => none
def bSum : List D → Option D
  | [.list l] => (sumI l).map .int
  | _ => none
/-- isinstance by the kinds that are asked -/
inductive Ty where | int | bool | str | tuple | list
def isTy : Ty → D → Bool
  | .int, .int _ => true
  | .int, .bool _ => true
  | .bool, .bool _ => true
  | .str, .str _ => true
  | .tuple, .tuple _ => true
  | .list, .list _ => true
  | _, _ => false
def eIsi (t : Ty) (f : EF) : EF := eUn (fun d => some (.bool (isTy t d))) f

/-- a method of a list that stays, with one argument -/
def eLm (op : List D → D → Option D) (f g : EF) : EF := fun ρ μ => (f ρ μ).bind fun a μ1 => match a with
  | .d (.list l) => (g ρ μ1).bind fun b μ2 => ofO ((view μ2 b).bind fun y => (op l y).map W.d) μ2
  | _ => .no
def lIndex (l : List D) (x : D) : Option D := if flatD x = true ∧ l.all flatD = true then (l.findIdx? fun z => PyData.eqv z x).map fun j => .int (j : Nat) else none
def lCount (l : List D) (x : D) : Option D := if flatD x = true ∧ l.all flatD = true then some (.int (l.countP fun z => PyData.eqv z x : Nat)) else none
/-! ### statements -/
def sNil : SF := fun ρ μ => .nx ρ μ
def sSeq (F G : SF) : SF := fun ρ μ => match F ρ μ with
  | .nx ρ1 μ1 => G ρ1 μ1
  | r => r
def sAsg (i : Nat) (f : EF) : SF := fun ρ μ => (f ρ μ).bindS fun w μ1 => .nx (ρ.set i (some w)) μ1
/-- a, b = x, y -/
def sPar (i j : Nat) (f g : EF) : SF := fun ρ μ => (f ρ μ).bindS fun w μ1 => (g ρ μ1).bindS fun u μ2 => .nx ((ρ.set i (some w)).set j (some u)) μ2
/-- targets of plain data -/
abbrev TF := D → Env → Option Env
def tName (i : Nat) : TF := fun d ρ => some (ρ.set i (some (.d d)))
def tTups : List TF → List D → Env → Option Env
  | [], [], ρ => some ρ
  | t :: ts, d :: ds, ρ => (t d ρ).bind fun ρ1 => tTups ts ds ρ1
  | _, _, _ => none
def tTup (ts : List TF) : TF := fun d ρ => match d with
  | .tuple ds => tTups ts ds ρ
  | _ => none
/-- the items of a list -/
def tUnl (ts : List TF) : TF := fun d ρ => match d with
  | .list ds => tTups ts ds ρ
  | _ => none
def sTgt (t : TF) (f : EF) : SF := fun ρ μ => (f ρ μ).bindS fun w μ1 => match w with
  | .d d => (match t d ρ with | some ρ1 => .nx ρ1 μ1 | none => .no)
  | _ => .no
def sDrop (f : EF) : SF := fun ρ μ => (f ρ μ).bindS fun _ μ1 => .nx ρ μ1
def sRet (f : EF) : SF := fun ρ μ => (f ρ μ).bindS fun w μ1 => .rt w μ1
/-- return of a name whose list is not changed any more -/
def sRetF (f : EF) : SF := fun ρ μ => (f ρ μ).bindS fun w μ1 => match view μ1 w with
  | some d => .rt (.d d) (match w with | .m k => μ1.set k none | _ => μ1)
  | none => .no
def RS.test (r : R W) (f : Bool → Sto → RS) : RS := r.bindS fun w μ => match isB w with
  | some b => f b μ
  | none => .no
@[simp] theorem RS.test_ok (b : Bool) (μ : Sto) (f : Bool → Sto → RS) : RS.test (R.ok (.d (.bool b)) μ) f = f b μ := rfl
def sIf (c : EF) (F G : SF) : SF := fun ρ μ => RS.test (c ρ μ) fun b μ1 => if b = true then F ρ μ1 else G ρ μ1
def sBreak : SF := fun ρ μ => .bk ρ μ
def sCont : SF := fun ρ μ => .ct ρ μ
def sRaise (x : Str) : SF := fun _ μ => .er ⟨x, none⟩ μ
/-- the items of what a for walks -/
abbrev IF := Env → Sto → R (List D)
def charsOf (x : Str) : List D := x.cps.toList.map fun c => .str ⟨#[c]⟩
def items : D → Option (List D)
  | .str x => if x.length ≤ LIM then some (charsOf x) else none
  | .list l => some l
  | .tuple l => some l
  | _ => none
def iSeq (f : EF) : IF := fun ρ μ => (f ρ μ).bind fun w μ1 => match w with
  | .d d => ofO (items d) μ1
  | _ => .no
def rangeD (a b : Int) : List D := (List.range (b - a).toNat).map fun (k : Nat) => PyData.int (a + k)
def iRange1 (f : EF) : IF := fun ρ μ => (f ρ μ).bind fun w μ1 => match w with
  | .d (.int b) => if -(LIM : Int) ≤ b ∧ b ≤ LIM then .ok (rangeD 0 b) μ1 else .no
  | _ => .no
def iRange2 (f g : EF) : IF := fun ρ μ => (f ρ μ).bind fun w μ1 => (g ρ μ1).bind fun u μ2 => match w, u with
  | .d (.int a), .d (.int b) => if -(LIM : Int) ≤ a ∧ a ≤ LIM ∧ -(LIM : Int) ≤ b ∧ b ≤ LIM then .ok (rangeD a b) μ2 else .no
  | _, _ => .no
/-- list(range(..)) -/
def eLRg (it : IF) : EF := fun ρ μ => (it ρ μ).bind fun l μ1 => .ok (.d (.list l)) μ1
def forL (t : TF) (B : SF) : List D → SF
  | [] => fun ρ μ => .nx ρ μ
  | d :: r => fun ρ μ => match t d ρ with
    | none => .no
    | some ρ1 => match B ρ1 μ with
      | .nx ρ2 μ2 => forL t B r ρ2 μ2
      | .ct ρ2 μ2 => forL t B r ρ2 μ2
      | .bk ρ2 μ2 => .nx ρ2 μ2
      | .rt w μ2 => .rt w μ2
      | .er x μ2 => .er x μ2
      | .no => .no
def sFor (t : TF) (it : IF) (B : SF) : SF := fun ρ μ => (it ρ μ).bindS fun l μ1 => forL t B l ρ μ1
def whileN (c : EF) (B : SF) : Nat → SF
  | 0 => fun _ _ => .no
  | n + 1 => fun ρ μ => RS.test (c ρ μ) fun b μ1 => if b = true then (match B ρ μ1 with
      | .nx ρ2 μ2 => whileN c B n ρ2 μ2
      | .ct ρ2 μ2 => whileN c B n ρ2 μ2
      | .bk ρ2 μ2 => .nx ρ2 μ2
      | .rt w μ2 => .rt w μ2
      | .er x μ2 => .er x μ2
      | .no => .no) else .nx ρ μ1
/-- a while, of at most so many turns -/
def sWhile (n : Nat) (c : EF) (B : SF) : SF := whileN c B n

/-! ### comprehensions -/
def wipeE (ρ : Env) : List Nat → Env
  | [] => ρ
  | i :: r => (wipeE ρ r).set i none
def lcL (t : TF) (c : EF) (e : EF) (ρ : Env) : List D → List D → Sto → R W
  | [], acc, μ => .ok (.d (.list acc)) μ
  | d :: r, acc, μ => match t d ρ with
    | none => .no
    | some ρ1 => match c ρ1 μ with
      | .ok (.d (.bool true)) μ1 => match e ρ1 μ1 with
        | .ok (.d y) μ2 => lcL t c e ρ r (acc ++ [y]) μ2
        | _ => .no
      | .ok (.d (.bool false)) μ1 => lcL t c e ρ r acc μ1
      | _ => .no
def eYes : EF := eBl true
def eLc (vs : List Nat) (t : TF) (it : IF) (c : EF) (e : EF) : EF := fun ρ μ => (it ρ μ).bind fun l μ1 => lcL t c e (wipeE ρ vs) l [] μ1

/-! ### lists that change -/
def eApp (f e : EF) : EF := fun ρ μ => (f ρ μ).bind fun w μ1 => match w with
  | .m k => (match mlist μ1 k with
    | some _ => (e ρ μ1).bind fun u μ2 => (match u, mlist μ2 k with
      | .d d, some l => if l.length < LIM then .ok (.d .none) (μ2.set k (some (.lst (l ++ [d])))) else .no
      | _, _ => .no)
    | none => .no)
  | _ => .no
/-- o[i] = e -/
def sSub (o i e : EF) : SF := fun ρ μ => (e ρ μ).bindS fun u μ1 => (o ρ μ1).bindS fun w μ2 => (i ρ μ2).bindS fun j μ3 => match u, w, j with
  | .d d, .m k, .d (.int n) => (match mlist μ3 k with
    | some l => (match ixI l.length n with
      | some p => .nx ρ (μ3.set k (some (.lst (l.set p d))))
      | none => .no)
    | none => .no)
  | _, _, _ => .no

/-! ### methods of texts -/
def eM0 (op : Str → Option D) (f : EF) : EF := fun ρ μ => (f ρ μ).bind fun w μ1 => match w with
  | .d (.str a) => ofO ((op a).map W.d) μ1
  | _ => .no
def eM1 (op : Str → D → Option D) (f g : EF) : EF := fun ρ μ => (f ρ μ).bind fun w μ1 => match w with
  | .d (.str a) => (g ρ μ1).bind fun u μ2 => ofO ((view μ2 u).bind fun y => (op a y).map W.d) μ2
  | _ => .no
def mUpper (a : Str) : Option D := if a.length ≤ LIM then some (.str (Txt.upper a)) else none
def strsOf : List D → Option (List Str)
  | [] => some []
  | .str x :: r => (strsOf r).map (x :: ·)
  | _ :: _ => none
def mSplit (a : Str) : D → Option D
  | .str b => if b.length ≠ 0 ∧ a.length ≤ LIM then some (.list ((Txt.split a b).map .str)) else none
  | _ => none
def joinOk (a : Str) (ys : List Str) : Prop := (ys.map (·.length)).sum + ys.length * a.length ≤ LIM
instance (a : Str) (ys : List Str) : Decidable (joinOk a ys) := by unfold joinOk; infer_instance
def mJoin (a : Str) : D → Option D
  | .list l => (strsOf l).bind fun ys => if joinOk a ys then some (.str (Txt.join a ys)) else none
  | .tuple l => (strsOf l).bind fun ys => if joinOk a ys then some (.str (Txt.join a ys)) else none
  | _ => none
/-- isinstance of the error that is handled -/
def eIsX (a : Nat) (b : Bool) (f : EF) : EF := fun ρ μ => (f ρ μ).bind fun w μ1 => match w with
  | .x k => if k = a then .ok (.d (.bool b)) μ1 else .no
  | _ => .no
/-- zip of two lists -/
def iZipD (f g : EF) : IF := fun ρ μ => (f ρ μ).bind fun w μ1 => (g ρ μ1).bind fun u μ2 => match w, u with
  | .d (.list l), .d (.list r) => if l.length ≤ LIM then .ok ((l.zip r).map fun p => .tuple [p.1, p.2]) μ2 else .no
  | _, _ => .no

def enumD (l : List D) : List D := l.zipIdx.map fun p => .tuple [.int (p.2 : Nat), p.1]
/-- enumerate of a tuple or a list -/
def iEnumD (f : EF) : IF := fun ρ μ => (f ρ μ).bind fun w μ1 => match w with
  | .d (.tuple l) => if l.length ≤ LIM then .ok (enumD l) μ1 else .no
  | .d (.list l) => if l.length ≤ LIM then .ok (enumD l) μ1 else .no
  | _ => .no

def boolsL : List D → Option (List Bool)
  | [] => some []
  | .bool b :: l => (boolsL l).map (b :: ·)
  | _ :: _ => none
/-- how many truth values -/
def cntB (bs : List Bool) : Nat := (if true ∈ bs then 1 else 0) + (if false ∈ bs then 1 else 0)
/-- len(set(list of truth values)) -/
def eLenSet (f : EF) : EF := fun ρ μ => (f ρ μ).bind fun w μ1 => match w with
  | .d (.list l) => match boolsL l with
    | some bs => if bs.length ≤ 1000 then .ok (.d (.int (cntB bs : Nat))) μ1 else .no
    | none => .no
  | _ => .no

/-! ### a call that is tried -/
def eTry (nm : Exn → Option Str) (f : EF) : EF := fun ρ μ => match f ρ μ with
  | .ok _ μ1 => .ok (.d (.str "")) μ1
  | .er x μ1 => ofO ((nm x).map fun s => W.d (.str s)) μ1
  | .no => .no

/-- list + list, for a list that will be changed -/
def eCatM (f g : EF) : EF := fun ρ μ => (f ρ μ).bind fun a μ1 => (g ρ μ1).bind fun b μ2 => match view μ2 a, view μ2 b with
  | some (.list x), some (.list y) => if x.length + y.length ≤ LIM then .ok (.m μ2.length) (μ2 ++ [some (.lst (x ++ y))]) else .no
  | _, _ => .no
/-- from here on a list is not changed any more -/
def sFrz (i : Nat) : SF := fun ρ μ => match ρ[i]? with
  | some (some (.m k)) => (match mlist μ k with | some l => .nx (ρ.set i (some (.d (.list l)))) (μ.set k none) | none => .no)
  | _ => .no
/-! ### defs as values -/
/-- a comprehension over things that are written one behind another (defs, too) -/
def lcW (i : Nat) (e : EF) (ρ : Env) : List W → List D → Sto → R W
  | [], acc, μ => .ok (.d (.list acc)) μ
  | w :: r, acc, μ => match e (ρ.set i (some w)) μ with
    | .ok (.d y) μ1 => lcW i e ρ r (acc ++ [y]) μ1
    | _ => .no
def eLcW (vs : List Nat) (i : Nat) (r : AF) (e : EF) : EF := fun ρ μ => (r ρ μ).bind fun ws μ1 => lcW i e (wipeE ρ vs) ws [] μ1
/-- a call of a name that holds one of several defs -/
def eCallV (i : Nat) (gs : List (Str × GF)) (a : AF) : EF := fun ρ μ => match ρ[i]? with
  | some (some (.f x)) => (match gs.lookup x with | some g => (a ρ μ).bind g | none => .no)
  | _ => .no

/-! ### defs -/
def startE (n : Nat) (ws : List W) : Env := ws.map some ++ List.replicate (n - ws.length) none
def fin (n : Nat) : RS → R W
  | .nx _ μ => .ok (.d .none) (μ.take n)
  | .rt (.d d) μ => .ok (.d d) (μ.take n)
  | .rt (.f x) μ => .ok (.f x) (μ.take n)
  | .rt (.e c y) μ => .ok (.e c y) (μ.take n)
  | .rt (.es l) μ => .ok (.es l) (μ.take n)
  | .rt (.m k) μ => if k < n then .ok (.m k) (μ.take n) else if k = n then .ok (.m k) (μ.take (n + 1)) else .no
  | .er x μ => .er x (μ.take n)
  | _ => .no
/-- a def of so many names, p of them its parameters -/
def fnOf (p n : Nat) (F : SF) : GF := fun ws μ => if ws.length = p then fin μ.length (F (startE n ws) μ) else .no

/-! ### an error's names -/
def ownCls : List Str := ["InvalidChange", "InvalidPiece", "InvalidStatement", "InvalidWorth", "InvalidNumber", "InvalidOrder", "InvalidPrices", "InvalidPairs", "InvalidText", "InvalidIndex", "InvalidRow", "InvalidTable", "Unlike", "Done", "NothingToUndo", "TooMany"]
def labs : List Str := ["change value", "piece value", "statement value", "worth value", "number value", "order value", "prices value", "pairs value", "text value", "index value", "row value", "table value", "unlike value", "done value", "undo value", "many value"]
/-- what isinstance answers, one class behind another, of an error of class i -/
def bOf (i j : Nat) : Bool := j == i || j == 16
def F_names (a : Nat) (b : Nat → Bool) : SF :=
  (sSeq (sAsg 1 (eLst (aCons (eIsX a (b 0) (eVar 0)) (aCons (eIsX a (b 1) (eVar 0)) (aCons (eIsX a (b 2) (eVar 0)) aNil)))))
  (sSeq (sAsg 1 (eOp dAdd (eVar 1) (eLst (aCons (eIsX a (b 3) (eVar 0)) (aCons (eIsX a (b 4) (eVar 0)) (aCons (eIsX a (b 5) (eVar 0)) aNil))))))
  (sSeq (sAsg 1 (eOp dAdd (eVar 1) (eLst (aCons (eIsX a (b 6) (eVar 0)) (aCons (eIsX a (b 7) (eVar 0)) (aCons (eIsX a (b 8) (eVar 0)) aNil))))))
  (sSeq (sAsg 1 (eOp dAdd (eVar 1) (eLst (aCons (eIsX a (b 9) (eVar 0)) (aCons (eIsX a (b 10) (eVar 0)) (aCons (eIsX a (b 11) (eVar 0)) aNil))))))
  (sSeq (sAsg 1 (eOp dAdd (eVar 1) (eLst (aCons (eIsX a (b 12) (eVar 0)) (aCons (eIsX a (b 13) (eVar 0)) (aCons (eIsX a (b 14) (eVar 0)) aNil))))))
  (sSeq (sAsg 1 (eOp dAdd (eVar 1) (eLst (aCons (eIsX a (b 15) (eVar 0)) (aCons (eIsX a (b 16) (eVar 0)) aNil)))))
  (sSeq (sAsg 2 (eStr "change piece statement worth number order prices pairs text index row table unlike done undo many value"))
  (sRet (eM1 mJoin (eStr " ") (eLc [3, 4] (tTup [tName 3, tName 4]) (iZipD (eM1 mSplit (eVar 2) (eStr " ")) (eVar 1)) (eVar 4) (eVar 3)))))))))))
theorem eVar1_at (x w : _) (ρ : Env) (μ : Sto) : eVar 1 (x :: some w :: ρ) μ = .ok w μ := rfl
theorem dAdd_short (a b : List D) (h : a.length + b.length ≤ LIM) : dAdd (.list a) (.list b) = some (.list (a ++ b)) := if_pos h
theorem eIsX_at (a : Nat) (b : Bool) (ρ : Env) (μ : Sto) : eIsX a b (eVar 0) (some (.x a) :: ρ) μ = .ok (.d (.bool b)) μ := by
  simp [eIsX, eVar]
def nmC (cl : List Str) (x : Exn) : Option Str := match x.arg with
  | some _ => none
  | none => if cl.contains x.cls then (ownCls.idxOf? x.cls).bind fun i => labs[i]? else none
def boolsOf (b : Nat → Bool) : List D := [.bool (b 0), .bool (b 1), .bool (b 2), .bool (b 3), .bool (b 4), .bool (b 5), .bool (b 6), .bool (b 7), .bool (b 8), .bool (b 9), .bool (b 10), .bool (b 11), .bool (b 12), .bool (b 13), .bool (b 14), .bool (b 15), .bool (b 16)]
theorem names_eval0 (a : Nat) (b : Nat → Bool) (μ : Sto) : F_names a b (startE 5 [.x a]) μ =
    sRet (eM1 mJoin (eStr " ") (eLc [3, 4] (tTup [tName 3, tName 4]) (iZipD (eM1 mSplit (eVar 2) (eStr " ")) (eVar 1)) (eVar 4) (eVar 3))) [some (.x a), some (.d (.list (boolsOf b))), some (.d (.str "change piece statement worth number order prices pairs text index row table unlike done undo many value")), none, none] μ := by
  have s0 : startE 5 [.x a] = some (.x a) :: [none, none, none, none] := rfl
  rw [s0]
  unfold F_names
  simp [sSeq, sAsg, eLst, aCons, aNil, eIsX_at, eVar1_at, R.bind_ok, R.bindS_ok, asDs_cons, asDs_nil, Option.map_some, ofO_some, List.set_cons_succ, List.set_cons_zero, eOp, view_d, Option.bind_some,
    dAdd, List.cons_append, List.nil_append, eStr, eC, List.length_cons, List.length_nil, LIM, Nat.reduceAdd, Nat.reduceLeDiff]
  rfl
theorem names_eval (a : Nat) : ∀ (i : Nat) (s : Str) (μ : Sto), labs[i]? = some s → F_names a (bOf i) (startE 5 [.x a]) μ = .rt (.d (.str s)) μ := by
  intro i s μ h
  rw [names_eval0]
  exact match i, h with
  | 0, h => by cases h; kernel_rfl
  | 1, h => by cases h; kernel_rfl
  | 2, h => by cases h; kernel_rfl
  | 3, h => by cases h; kernel_rfl
  | 4, h => by cases h; kernel_rfl
  | 5, h => by cases h; kernel_rfl
  | 6, h => by cases h; kernel_rfl
  | 7, h => by cases h; kernel_rfl
  | 8, h => by cases h; kernel_rfl
  | 9, h => by cases h; kernel_rfl
  | 10, h => by cases h; kernel_rfl
  | 11, h => by cases h; kernel_rfl
  | 12, h => by cases h; kernel_rfl
  | 13, h => by cases h; kernel_rfl
  | 14, h => by cases h; kernel_rfl
  | 15, h => by cases h; kernel_rfl
  | n + 16, h => by cases h
end Mi

set_option Elab.async false
set_option linter.all false
set_option maxRecDepth 100000
/-! The mirror's data on the abstract heap. -/
namespace L3
open PySem PySem.Spec PyProof.Rows L2 Mi

/-- what stands around: the written part, the module's names, the tables of lambdas -/
structure Cv where
  K : PySem.W.Frag
  mg : Str → Option Value
  T : List (Addr × Str)
/-- the addresses of one's own changing things; of those that nobody knows of yet (a comprehension's new list) -/
structure Al where
  own : List Addr
  hid : List Addr
def Own (α : Al) (μ : Sto) (a : Addr) : Prop := (∃ (k : Nat) (c : Cell), α.own[k]? = some a ∧ μ[k]? = some (some c)) ∨ a ∈ α.hid
mutual
inductive Rp (K : PySem.W.Frag) (H : Hp) (M : Addr → Prop) : V → D → Prop
  | non : Rp K H M .non .none
  | bl (b : Bool) : Rp K H M (.bl b) (.bool b)
  | int (i : Int) : Rp K H M (.int i) (.int i)
  | str (x : Str) : Rp K H M (.str x) (.str x)
  | lst {a : Addr} {xs : List V} {ds : List D} : Rd H a (.lst xs) → ¬ M a → RpAll K H M xs ds → Rp K H M (.ref a) (.list ds)
  | tup {a : Addr} {xs : List V} {ds : List D} : SqT K H a xs → RpAll K H M xs ds → Rp K H M (.ref a) (.tuple ds)
inductive RpAll (K : PySem.W.Frag) (H : Hp) (M : Addr → Prop) : List V → List D → Prop
  | nil : RpAll K H M [] []
  | cons {v : V} {vs : List V} {d : D} {ds : List D} : Rp K H M v d → RpAll K H M vs ds → RpAll K H M (v :: vs) (d :: ds)
end
/-- what a value shows, at the top a changing list too -/
def RpT (K : PySem.W.Frag) (H : Hp) (M : Addr → Prop) (v : V) (d : D) : Prop :=
  Rp K H M v d ∨ ∃ a xs ds, v = .ref a ∧ d = .list ds ∧ Rd H a (.lst xs) ∧ RpAll K H M xs ds
/-- at a: an exception object of that class that nobody raised, its args at t -/
def ExM (cls : Value) (a t : Addr) : HO := .ext fun h => ∃ (oe : Obj) (vs : Array Value), h.get? a = some oe ∧ Zc cls none oe ∧ oe.data = .fields vs ∧ vs[0]? = some (.ref t)
def RpE (C : Cv) (H : Hp) (M : Addr → Prop) (v : V) (c : Str) : Xy → Prop
  | .msg m => ∃ a A t, v = .ref a ∧ C.mg c = some (.ref A) ∧ H a = some (ExM (.ref A) a t) ∧ ¬ M a ∧ H t = some (.tup [.str m])
  | .lim d => ∃ a A dx u, v = .ref a ∧ C.mg c = some (.ref A) ∧ H a = some (exo a A (some dx)) ∧ ¬ M a ∧ H dx = some (exd dx [("limit", u)]) ∧ ¬ M dx ∧ Rp C.K H M u d
inductive RpEs (C : Cv) (H : Hp) (M : Addr → Prop) : List V → List (Str × Xy) → Prop
  | nil : RpEs C H M [] []
  | cons {v : V} {vs : List V} {c : Str} {y : Xy} {l : List (Str × Xy)} : RpE C H M v c y → RpEs C H M vs l → RpEs C H M (v :: vs) ((c, y) :: l)
def RpW (C : Cv) (H : Hp) (α : Al) (μ : Sto) (v : V) : W → Prop
  | .d d => Rp C.K H (Own α μ) v d
  | .m k => ∃ a, α.own[k]? = some a ∧ v = .ref a
  | .f x => ∃ a, C.mg x = some (.ref a) ∧ v = .ref a
  | .x a => v = .ref a
  | .e c y => RpE C H (Own α μ) v c y
  | .es l => ∃ a vs, v = .ref a ∧ Rd H a (.lst vs) ∧ ¬ Own α μ a ∧ RpEs C H (Own α μ) vs l
inductive RpWs (C : Cv) (H : Hp) (α : Al) (μ : Sto) : List V → List W → Prop
  | nil : RpWs C H α μ [] []
  | cons {v : V} {vs : List V} {w : W} {ws : List W} : RpW C H α μ v w → RpWs C H α μ vs ws → RpWs C H α μ (v :: vs) (w :: ws)
def NT (o : HO) : Prop := ∀ ps, o ≠ .tbl ps
structure Ext (H : Hp) (M : Addr → Prop) (H' : Hp) (M' : Addr → Prop) : Prop where
  any : ∀ b o, H b = some o → ¬ M b → NT o → H' b = some o ∧ ¬ M' b
  tup : ∀ b xs, H b = some (.tup xs) → H' b = some (.tup xs)
  frz : ∀ b o u, H b = some (.frz o u) → H' b = some (.frz o u)
theorem Ext.refl (H : Hp) (M : Addr → Prop) : Ext H M H M := ⟨fun _ _ h n _ => ⟨h, n⟩, fun _ _ h => h, fun _ _ _ h => h⟩
theorem Ext.trans {H H1 H2 : Hp} {M M1 M2 : Addr → Prop} (a : Ext H M H1 M1) (b : Ext H1 M1 H2 M2) : Ext H M H2 M2 :=
  ⟨fun c o h n t => b.any c o (a.any c o h n t).1 (a.any c o h n t).2 t, fun c xs h => b.tup c xs (a.tup c xs h), fun c o u h => b.frz c o u (a.frz c o u h)⟩
theorem Ext.rd {H H' : Hp} {M M' : Addr → Prop} (e : Ext H M H' M') {a : Addr} {xs : List V} (h : Rd H a (.lst xs)) (n : ¬ M a) : Rd H' a (.lst xs) ∧ ¬ M' a := by
  rcases h with h | ⟨o, h⟩
  · have q := e.any a _ h n (fun ps z => by cases z)
    exact ⟨.inl q.1, q.2⟩
  · have q := e.any a _ h n (fun ps z => by cases z)
    exact ⟨.inr ⟨o, q.1⟩, q.2⟩
theorem Ext.sqT {H H' : Hp} {M M' : Addr → Prop} (e : Ext H M H' M') {K : PySem.W.Frag} {a : Addr} {xs : List V} (h : SqT K H a xs) : SqT K H' a xs := by
  rcases h with (h | ⟨o, h⟩) | h
  · exact .inl (.inl (e.tup _ _ h))
  · exact .inl (.inr ⟨o, e.frz _ _ _ h⟩)
  · exact .inr h
mutual
theorem Rp.ext {K : PySem.W.Frag} {H H' : Hp} {M M' : Addr → Prop} (e : Ext H M H' M') : ∀ {v : V} {d : D}, Rp K H M v d → Rp K H' M' v d
  | _, _, .non => .non
  | _, _, .bl b => .bl b
  | _, _, .int i => .int i
  | _, _, .str x => .str x
  | _, _, .lst h n r => .lst (e.rd h n).1 (e.rd h n).2 (RpAll.ext e r)
  | _, _, .tup h r => .tup (e.sqT h) (RpAll.ext e r)
theorem RpAll.ext {K : PySem.W.Frag} {H H' : Hp} {M M' : Addr → Prop} (e : Ext H M H' M') : ∀ {v : List V} {d : List D}, RpAll K H M v d → RpAll K H' M' v d
  | _, _, .nil => .nil
  | _, _, .cons h t => .cons (Rp.ext e h) (RpAll.ext e t)
end
mutual
theorem Rp.dp {K : PySem.W.Frag} {H : Hp} {M : Addr → Prop} : ∀ {v : V} {d : D}, Rp K H M v d → Dp K H v d
  | _, _, .non => .non
  | _, _, .bl b => .bl b
  | _, _, .int i => .int i
  | _, _, .str x => .str x
  | _, _, .lst h n r => .lst (.inl h) (RpAll.dp r)
  | _, _, .tup h r => .tup h (RpAll.dp r)
theorem RpAll.dp {K : PySem.W.Frag} {H : Hp} {M : Addr → Prop} : ∀ {v : List V} {d : List D}, RpAll K H M v d → DpAll K H v d
  | _, _, .nil => .nil
  | _, _, .cons h t => .cons (Rp.dp h) (RpAll.dp t)
end
theorem RpT.dp {K : PySem.W.Frag} {H : Hp} {M : Addr → Prop} {v : V} {d : D} (h : RpT K H M v d) : Dp K H v d := by
  rcases h with h | ⟨a, xs, ds, rfl, rfl, h, r⟩
  · exact h.dp
  · exact .lst (.inl h) r.dp
theorem RpAll.length {K : PySem.W.Frag} {H : Hp} {M : Addr → Prop} : ∀ {vs : List V} {ds : List D}, RpAll K H M vs ds → vs.length = ds.length
  | _, _, .nil => rfl
  | _, _, .cons _ t => congrArg (· + 1) (RpAll.length t)
theorem RpAll.get {K : PySem.W.Frag} {H : Hp} {M : Addr → Prop} : ∀ {vs : List V} {ds : List D} {i : Nat} {d : D}, RpAll K H M vs ds → ds[i]? = some d → ∃ v, vs[i]? = some v ∧ Rp K H M v d
  | _, _, _, _, .nil, e => by simp at e
  | _, _, 0, _, .cons r _, e => by simp at e; subst e; exact ⟨_, rfl, r⟩
  | _, _, i + 1, d, .cons _ t, e => by
    obtain ⟨v, h1, h2⟩ := RpAll.get (i := i) (d := d) t (by simpa using e)
    exact ⟨v, by simpa using h1, h2⟩
theorem RpAll.append {K : PySem.W.Frag} {H : Hp} {M : Addr → Prop} : ∀ {vs us : List V} {ds es : List D}, RpAll K H M vs ds → RpAll K H M us es → RpAll K H M (vs ++ us) (ds ++ es)
  | _, _, _, _, .nil, s => s
  | _, _, _, _, .cons r t, s => .cons r (RpAll.append t s)
theorem RpAll.take {K : PySem.W.Frag} {H : Hp} {M : Addr → Prop} : ∀ {vs : List V} {ds : List D} (n : Nat), RpAll K H M vs ds → RpAll K H M (vs.take n) (ds.take n)
  | _, _, 0, _ => by simp; exact .nil
  | _, _, _ + 1, .nil => by simp; exact .nil
  | _, _, n + 1, .cons r t => by simp; exact .cons r (RpAll.take n t)
theorem RpAll.drop {K : PySem.W.Frag} {H : Hp} {M : Addr → Prop} : ∀ {vs : List V} {ds : List D} (n : Nat), RpAll K H M vs ds → RpAll K H M (vs.drop n) (ds.drop n)
  | _, _, 0, r => r
  | _, _, _ + 1, .nil => by simp; exact .nil
  | _, _, n + 1, .cons _ t => by simp; exact RpAll.drop n t
theorem RpAll.set {K : PySem.W.Frag} {H : Hp} {M : Addr → Prop} {v : V} {d : D} (q : Rp K H M v d) : ∀ {vs : List V} {ds : List D} (i : Nat), RpAll K H M vs ds → RpAll K H M (vs.set i v) (ds.set i d)
  | _, _, _, .nil => .nil
  | _, _, 0, .cons _ t => .cons q t
  | _, _, i + 1, .cons r t => .cons r (RpAll.set q i t)
theorem RpAll.reverse {K : PySem.W.Frag} {H : Hp} {M : Addr → Prop} : ∀ {vs : List V} {ds : List D}, RpAll K H M vs ds → RpAll K H M vs.reverse ds.reverse
  | _, _, .nil => .nil
  | _, _, .cons r t => by simp; exact (RpAll.reverse t).append (.cons r .nil)
theorem RpT.list {K : PySem.W.Frag} {H : Hp} {M : Addr → Prop} {v : V} {ds : List D} (h : RpT K H M v (.list ds)) : ∃ a xs, v = .ref a ∧ Rd H a (.lst xs) ∧ RpAll K H M xs ds := by
  rcases h with h | ⟨a, xs, es, rfl, e, h, r⟩
  · cases h with
    | lst h n r => exact ⟨_, _, rfl, h, r⟩
  · cases e
    exact ⟨a, xs, rfl, h, r⟩
theorem RpT.tuple {K : PySem.W.Frag} {H : Hp} {M : Addr → Prop} {v : V} {ds : List D} (h : RpT K H M v (.tuple ds)) : ∃ a xs, v = .ref a ∧ SqT K H a xs ∧ RpAll K H M xs ds := by
  rcases h with h | ⟨a, xs, es, rfl, e, h, r⟩
  · cases h with
    | tup h r => exact ⟨_, _, rfl, h, r⟩
  · cases e
theorem RpT.int {K : PySem.W.Frag} {H : Hp} {M : Addr → Prop} {v : V} {i : Int} (h : RpT K H M v (.int i)) : v = .int i := by
  rcases h with h | ⟨a, xs, es, rfl, e, h, r⟩
  · cases h; rfl
  · cases e
theorem RpT.bl {K : PySem.W.Frag} {H : Hp} {M : Addr → Prop} {v : V} {i : Bool} (h : RpT K H M v (.bool i)) : v = .bl i := by
  rcases h with h | ⟨a, xs, es, rfl, e, h, r⟩
  · cases h; rfl
  · cases e
theorem RpT.str {K : PySem.W.Frag} {H : Hp} {M : Addr → Prop} {v : V} {i : Str} (h : RpT K H M v (.str i)) : v = .str i := by
  rcases h with h | ⟨a, xs, es, rfl, e, h, r⟩
  · cases h; rfl
  · cases e
theorem RpT.none {K : PySem.W.Frag} {H : Hp} {M : Addr → Prop} {v : V} (h : RpT K H M v .none) : v = .non := by
  rcases h with h | ⟨a, xs, es, rfl, e, h, r⟩
  · cases h; rfl
  · cases e
theorem RpT.nodict {K : PySem.W.Frag} {H : Hp} {M : Addr → Prop} {v : V} {kvs : List (D × D)} (h : RpT K H M v (.dict kvs)) : False := by
  rcases h with h | ⟨a, xs, es, rfl, e, h, r⟩
  · cases h
  · cases e

/-! ### the store -/
def CellOk (C : Cv) (H : Hp) (α : Al) (μ : Sto) (a : Addr) : Cell → Prop
  | .lst l => ∃ xs, H a = some (.lst xs) ∧ RpAll C.K H (Own α μ) xs l
  | .ins c fs => ∃ A dx gs, C.mg c = some (.ref A) ∧ H a = some (.ins A dx gs) ∧ gs.map (·.1) = fs.map (·.1) ∧ RpAll C.K H (Own α μ) (gs.map (·.2)) (fs.map (·.2))
structure Stor (C : Cv) (H : Hp) (α : Al) (μ : Sto) : Prop where
  len : α.own.length = μ.length
  nd : (α.own ++ α.hid).Nodup
  there : ∀ a ∈ α.own ++ α.hid, ∃ o, H a = some o ∧ NT o
  cell : ∀ (k : Nat) (c : Cell), μ[k]? = some (some c) → ∃ a, α.own[k]? = some a ∧ CellOk C H α μ a c
  tabs : LamX.Tabs C.T H
structure Step (H : Hp) (α : Al) (μ : Sto) (H' : Hp) (α' : Al) (μ' : Sto) : Prop where
  ext : Ext H (Own α μ) H' (Own α' μ')
  pre : ∀ (k : Nat) (a : Addr), α.own[k]? = some a → α'.own[k]? = some a
  hid : α'.hid = α.hid
  keep : ∀ b ∈ α.hid, H' b = H b
theorem Step.refl (H : Hp) (α : Al) (μ : Sto) : Step H α μ H α μ := ⟨.refl _ _, fun _ _ h => h, rfl, fun _ _ => rfl⟩
theorem Step.trans {H H1 H2 : Hp} {α α1 α2 : Al} {μ μ1 μ2 : Sto} (a : Step H α μ H1 α1 μ1) (b : Step H1 α1 μ1 H2 α2 μ2) : Step H α μ H2 α2 μ2 :=
  ⟨a.ext.trans b.ext, fun k x h => b.pre k x (a.pre k x h), b.hid.trans a.hid, fun c h => (b.keep c (by rw [a.hid]; exact h)).trans (a.keep c h)⟩
theorem RpE.ext {C : Cv} {H H' : Hp} {M M' : Addr → Prop} (e : Ext H M H' M') {v : V} {c : Str} : ∀ {y : Xy}, RpE C H M v c y → RpE C H' M' v c y
  | .msg _, ⟨a, A, t, h1, h2, h3, h4, h5⟩ => ⟨a, A, t, h1, h2, (e.any _ _ h3 h4 (fun _ z => by have z' : HO.ext _ = HO.tbl _ := z; cases z')).1, (e.any _ _ h3 h4 (fun _ z => by have z' : HO.ext _ = HO.tbl _ := z; cases z')).2, e.tup _ _ h5⟩
  | .lim _, ⟨a, A, dx, u, h1, h2, h3, h4, h5, h6, h7⟩ => ⟨a, A, dx, u, h1, h2, (e.any _ _ h3 h4 (fun _ z => exo_tbl z)).1, (e.any _ _ h3 h4 (fun _ z => exo_tbl z)).2, (e.any _ _ h5 h6 (fun _ z => by have z' : HO.ext _ = HO.tbl _ := z; cases z')).1, (e.any _ _ h5 h6 (fun _ z => by have z' : HO.ext _ = HO.tbl _ := z; cases z')).2, h7.ext e⟩
theorem RpEs.ext {C : Cv} {H H' : Hp} {M M' : Addr → Prop} (e : Ext H M H' M') : ∀ {vs : List V} {l : List (Str × Xy)}, RpEs C H M vs l → RpEs C H' M' vs l
  | _, _, .nil => .nil
  | _, _, .cons h t => .cons (h.ext e) (t.ext e)
theorem RpW.exte {C : Cv} {H H' : Hp} {α α' : Al} {μ μ' : Sto} (e : Ext H (Own α μ) H' (Own α' μ')) {v : V} {c : Str} {y : Xy} (h : RpW C H α μ v (.e c y)) : RpW C H' α' μ' v (.e c y) := RpE.ext e h
theorem RpW.extes {C : Cv} {H H' : Hp} {α α' : Al} {μ μ' : Sto} (e : Ext H (Own α μ) H' (Own α' μ')) {v : V} {l : List (Str × Xy)} (h : RpW C H α μ v (.es l)) : RpW C H' α' μ' v (.es l) := by
  obtain ⟨a, vs, h1, h2, h3, h4⟩ := h
  exact ⟨a, vs, h1, (e.rd h2 h3).1, (e.rd h2 h3).2, h4.ext e⟩
theorem RpW.step {C : Cv} {H H' : Hp} {α α' : Al} {μ μ' : Sto} (st : Step H α μ H' α' μ') {v : V} : ∀ {w : W}, RpW C H α μ v w → RpW C H' α' μ' v w
  | .d _, h => Rp.ext st.ext h
  | .m _, ⟨a, h, e⟩ => ⟨a, st.pre _ _ h, e⟩
  | .f _, h => h
  | .x _, h => h
  | .e _ _, h => RpW.exte st.ext h
  | .es _, h => RpW.extes st.ext h
theorem RpWs.step {C : Cv} {H H' : Hp} {α α' : Al} {μ μ' : Sto} (st : Step H α μ H' α' μ') : ∀ {vs : List V} {ws : List W}, RpWs C H α μ vs ws → RpWs C H' α' μ' vs ws
  | _, _, .nil => .nil
  | _, _, .cons h t => .cons (h.step st) (t.step st)
theorem RpWs.length {C : Cv} {H : Hp} {α : Al} {μ : Sto} : ∀ {vs : List V} {ws : List W}, RpWs C H α μ vs ws → vs.length = ws.length
  | _, _, .nil => rfl
  | _, _, .cons _ t => congrArg (· + 1) (RpWs.length t)
theorem mlist_at {μ : Sto} {k : Nat} {l : List D} (h : mlist μ k = some l) : μ[k]? = some (some (.lst l)) := by
  unfold mlist at h
  split at h
  · rename_i l' e
    cases h
    exact e
  · cases h
theorem RpW.view {C : Cv} {H : Hp} {α : Al} {μ : Sto} (S : Stor C H α μ) {v : V} {w : W} {d : D} (h : RpW C H α μ v w) (e : view μ w = some d) : RpT C.K H (Own α μ) v d := by
  cases w with
  | d d' => cases e; exact .inl h
  | f x => cases e
  | x a => cases e
  | e c y => cases e
  | es l => cases e
  | m k =>
    obtain ⟨a, ha, rfl⟩ := h
    cases hk : mlist μ k with
    | none => simp [Mi.view, hk] at e
    | some l =>
      simp [Mi.view, hk] at e
      subst e
      obtain ⟨a', ha', xs, hx, r⟩ := S.cell k _ (mlist_at hk)
      rw [ha] at ha'; cases ha'
      exact .inr ⟨a, xs, l, rfl, rfl, .inl hx, r⟩
theorem Stor.own_ne {C : Cv} {H : Hp} {α : Al} {μ : Sto} (S : Stor C H α μ) {a : Addr} (h : H a = none) : ¬ Own α μ a := fun z => by
  have hm : a ∈ α.own ++ α.hid := by
    rcases z with ⟨k, c, h1, h2⟩ | z
    · exact List.mem_append_left _ (List.mem_of_getElem? h1)
    · exact List.mem_append_right _ z
  obtain ⟨o, e, _⟩ := S.there a hm
  rw [h] at e; cases e
/-- all that was tracked is as it was -/
theorem Same.ext {H H' : Hp} (e : Same H H') (M : Addr → Prop) : Ext H M H' M := ⟨fun b o h n _ => ⟨e b o h, n⟩, fun b xs h => e _ _ h, fun b o u h => e _ _ h⟩
theorem same_upd {H : Hp} {p : Addr} {o : HO} (h : H p = none) : Same H (upd H p o) := fun b x e => by
  rw [upd_ne (ne_of_none e h)]
  exact e
theorem Same.step {C : Cv} {H H' : Hp} {α : Al} {μ : Sto} (S : Stor C H α μ) (e : Same H H') : Step H α μ H' α μ :=
  ⟨Same.ext e _, fun _ _ h => h, rfl, fun b hb => by obtain ⟨o, q, _⟩ := S.there b (List.mem_append_right _ hb); rw [q]; exact e b o q⟩
theorem Stor.same {C : Cv} {H H' : Hp} {α : Al} {μ : Sto} (S : Stor C H α μ) (e : Same H H') : Stor C H' α μ where
  len := S.len
  nd := S.nd
  there := fun a h => let ⟨o, q, n⟩ := S.there a h; ⟨o, e _ _ q, n⟩
  cell := fun k c h => by
    obtain ⟨a, ha, hc⟩ := S.cell k c h
    refine ⟨a, ha, ?_⟩
    cases c with
    | lst l => obtain ⟨xs, h1, h2⟩ := hc; exact ⟨xs, e _ _ h1, h2.ext (Same.ext e _)⟩
    | ins c fs => obtain ⟨A, dx, gs, h1, h2, h3, h4⟩ := hc; exact ⟨A, dx, gs, h1, e _ _ h2, h3, h4.ext (Same.ext e _)⟩
  tabs := S.tabs.ext e
/-- slots -/
structure Sl (C : Cv) (H : Hp) (α : Al) (μ : Sto) (σ : L2.St) (ρ : Mi.Env) : Prop where
  len : ρ.length = σ.length
  at_ : ∀ (i : Nat) (w : W), ρ[i]? = some (some w) → ∃ v, σ[i]? = some (some v) ∧ RpW C H α μ v w
theorem Sl.step {C : Cv} {H H' : Hp} {α α' : Al} {μ μ' : Sto} {σ : L2.St} {ρ : Mi.Env} (st : Step H α μ H' α' μ') (s : Sl C H α μ σ ρ) : Sl C H' α' μ' σ ρ :=
  ⟨s.len, fun i w h => by obtain ⟨v, h1, h2⟩ := s.at_ i w h; exact ⟨v, h1, h2.step st⟩⟩
theorem Sl.set {C : Cv} {H : Hp} {α : Al} {μ : Sto} {σ : L2.St} {ρ : Mi.Env} (s : Sl C H α μ σ ρ) {v : V} {w : W} (r : RpW C H α μ v w) (i : Nat) : Sl C H α μ (σ.set i (some v)) (ρ.set i (some w)) := by
  refine ⟨by simp [s.len], fun j u h => ?_⟩
  by_cases e : i = j
  · subst e
    rw [List.getElem?_set] at h
    simp only [if_true] at h
    split at h
    · rename_i hl
      cases h
      refine ⟨v, ?_, r⟩
      rw [List.getElem?_set]
      simp [← s.len, hl]
    · cases h
  · rw [List.getElem?_set_ne e] at h
    obtain ⟨v', h1, h2⟩ := s.at_ j u h
    exact ⟨v', by rw [List.getElem?_set_ne e]; exact h1, h2⟩
theorem Sl.wipe {C : Cv} {H : Hp} {α : Al} {μ : Sto} {σ : L2.St} {ρ : Mi.Env} (s : Sl C H α μ σ ρ) : ∀ vs : List Nat, Sl C H α μ (L2.wipe σ vs) (wipeE ρ vs)
  | [] => s
  | i :: r => by
    have q := Sl.wipe s r
    refine ⟨?_, fun j u h => ?_⟩
    · rw [L2.wipe_length]
      show ((wipeE ρ r).set i none).length = _
      rw [List.length_set, q.len, L2.wipe_length]
    · have h : ((wipeE ρ r).set i none)[j]? = some (some u) := h
      by_cases e : i = j
      · subst e
        rw [List.getElem?_set] at h
        simp only [if_true] at h
        split at h <;> cases h
      · rw [List.getElem?_set_ne e] at h
        obtain ⟨v', h1, h2⟩ := q.at_ j u h
        refine ⟨v', ?_, h2⟩
        show (L2.wipe σ (i :: r))[j]? = _
        unfold L2.wipe
        rw [List.getElem?_set_ne e]
        exact h1
/-- an exception -/
def RpX (C : Cv) (H : Hp) (cls : Value) (d : Option Addr) (x : Exn) : Prop := C.mg x.cls = some cls ∧ match x.arg with
  | none => d = none
  | some y => ∃ a v, d = some a ∧ H a = some (.xd [("limit", v)]) ∧ Rp C.K H (fun _ => False) v y

/-! ### readings -/
def PQ (C : Cv) (E : XK) (Q : VK) (H : Hp) (α : Al) (μ : Sto) : R W → Prop
  | .ok w μ' => ∀ v H' α', Step H α μ H' α' μ' → Stor C H' α' μ' → RpW C H' α' μ' v w → Q v H'
  | .er x μ' => ∀ cls d H' α', Step H α μ H' α' μ' → Stor C H' α' μ' → RpX C H' cls d x → E cls d H'
  | .no => False
theorem PQ.step {C : Cv} {E : XK} {Q : VK} {H H1 : Hp} {α α1 : Al} {μ μ1 : Sto} {r : R W} (h : PQ C E Q H α μ r) (st : Step H α μ H1 α1 μ1) : PQ C E Q H1 α1 μ1 r := by
  cases r with
  | ok w μ' => exact fun v H' α' s S q => h v H' α' (st.trans s) S q
  | er x μ' => exact fun cls d H' α' s S q => h cls d H' α' (st.trans s) S q
  | no => exact h
def tD (C : Cv) (E : XK) (f : EF) : TE := fun σ H Q => ∃ ρ α μ, Stor C H α μ ∧ Sl C H α μ σ ρ ∧ PQ C E Q H α μ (f ρ μ)
/-- the workhorse -/
theorem tD_bind {C : Cv} {E : XK} {Q Q' : VK} {H : Hp} {α : Al} {μ : Sto} {σ : L2.St} {ρ : Mi.Env} {f : EF} {k : W → Sto → R W} (S : Stor C H α μ) (sl : Sl C H α μ σ ρ) (h : PQ C E Q H α μ ((f ρ μ).bind k))
    (cont : ∀ v w H1 α1 μ1, Step H α μ H1 α1 μ1 → Stor C H1 α1 μ1 → Sl C H1 α1 μ1 σ ρ → RpW C H1 α1 μ1 v w → PQ C E Q H1 α1 μ1 (k w μ1) → Q' v H1) : tD C E f σ H Q' := by
  refine ⟨ρ, α, μ, S, sl, ?_⟩
  cases e : f ρ μ with
  | ok w μ1 =>
    rw [e] at h
    exact fun v H1 α1 st S1 r => cont v w H1 α1 μ1 st S1 (sl.step st) r (PQ.step (r := k w μ1) h st)
  | er x μ1 => rw [e] at h; exact h
  | no => rw [e] at h; exact (show False from h).elim
end L3

set_option Elab.async false
set_option linter.all false
set_option maxRecDepth 100000
/-! One rule a construct: the machine does what the mirror says. -/
namespace L3
open PySem PySem.Spec PyProof.Rows L2 Mi

abbrev CvX (X : Cx) (T : List (Addr × Str)) : Cv := ⟨X.K, X.mg, T⟩
/-- what the rules ask of the context: j calls deep there is room; E: the wish about exceptions -/
structure CK (X : Cx) (E : XK) (j : Nat) : Prop where
  calm : X.calm = true
  nd : X.N.Nodup
  room : Room j X.A
  takes : L2N.Takes X (fun cls d _ H => E cls d H)
theorem CK.passes {X : Cx} {E : XK} {j : Nat} (c : CK X E j) : Passes (L2N.CX X.prog X.w) X E := L2N.passes_call c.takes fun _ _ _ _ h => h
theorem CK.hu {X : Cx} {E : XK} {j : Nat} (c : CK X E j) : X.A.units + 64 < cLine := c.room.units
def DE (X : Cx) (T : List (Addr × Str)) (E : XK) (e : Expr) (f : EF) : Prop := PE X e (tD (CvX X T) E f)
def DT (X : Cx) (T : List (Addr × Str)) (E : XK) (e : Expr) (f : EF) : Prop := PT X e (fun σ H Q => tD (CvX X T) E f σ H fun v H1 => ∃ b, v = .bl b ∧ Q b H1)
def DW (X : Cx) (T : List (Addr × Str)) (E : XK) (e : Expr) (f : EF) : Prop := PW X e (fun σ H Q => tD (CvX X T) E f σ H fun v H1 => ∃ b, v = .bl b ∧ Q b H1)
theorem pe_imp {X : Cx} {e : Expr} {t t' : TE} (h : PE X e t) (i : ∀ σ H Q, t' σ H Q → t σ H Q) : PE X e t' := ⟨fun pins s σ H Q I q => h.run pins s σ H Q I (i _ _ _ q)⟩
/-- the same, told of the very state -/
theorem pe_impI {X : Cx} {e : Expr} {t t' : TE} (h : PE X e t) (i : ∀ pins s σ H Q, Inv X pins σ H s → t' σ H Q → t σ H Q) : PE X e t' := ⟨fun pins s σ H Q I q => h.run pins s σ H Q I (i _ _ _ _ _ I q)⟩
theorem pt_imp {X : Cx} {e : Expr} {t t' : TT} (h : PT X e t) (i : ∀ σ H Q, t' σ H Q → t σ H Q) : PT X e t' := ⟨fun pins s σ H Q I q => h.run pins s σ H Q I (i _ _ _ q)⟩
theorem pw_imp {X : Cx} {e : Expr} {t t' : TT} (h : PW X e t) (i : ∀ σ H Q, t' σ H Q → t σ H Q) : PW X e t' := ⟨fun wh pins s σ H Q I q => h.run wh pins s σ H Q I (i _ _ _ q)⟩
theorem ps_imp {X : Cx} {e : Stmt} {t t' : TS} (h : PS X e t) (i : ∀ D σ H, t' D σ H → t D σ H) : PS X e t' := ⟨fun pins s σ H D I q => h.run pins s σ H D I (i _ _ _ q)⟩
theorem pss_imp {X : Cx} {e : List Stmt} {t t' : TS} (h : PSs X e t) (i : ∀ D σ H, t' D σ H → t D σ H) : PSs X e t' := ⟨fun pins s σ H D I q => h.run pins s σ H D I (i _ _ _ q)⟩

section
variable {C : Cv} {E : XK} {Q Q' : VK} {H : Hp} {α : Al} {μ : Sto} {σ : L2.St} {ρ : Mi.Env} {f : EF}
/-- the end of a value -/
theorem PQ.ok {v : V} {w : W} (S : Stor C H α μ) (r : RpW C H α μ v w) (h : PQ C E Q H α μ (.ok w μ)) : Q v H := h v H α (.refl _ _ _) S r
theorem tD_mono (h : tD C E f σ H Q) (hQ : ∀ v H', Q v H' → Q' v H') : tD C E f σ H Q' := by
  obtain ⟨ρ, α, μ, S, sl, q⟩ := h
  refine ⟨ρ, α, μ, S, sl, ?_⟩
  cases e : f ρ μ with
  | ok w μ1 => rw [e] at q; exact fun v H' α' st S' r => hQ _ _ (q v H' α' st S' r)
  | er x μ1 => rw [e] at q; exact q
  | no => rw [e] at q; exact q
/-- an end by a value that is known from an option -/
theorem PQ.ofO {o : Option W} (h : PQ C E Q H α μ (ofO o μ)) : ∃ w, o = some w ∧ PQ C E Q H α μ (.ok w μ) := by
  cases o with
  | none => exact (show False from h).elim
  | some w => exact ⟨w, rfl, h⟩
theorem PQ.test {r : R W} {k : Bool → Sto → R W} (h : PQ C E Q H α μ (r.test k)) : PQ C E Q H α μ (r.bind fun w μ1 => match isB w with | some b => k b μ1 | none => .no) := h
end
/-- tests: behind a bool -/
theorem tD_test {C : Cv} {E : XK} {Q Q' : VK} {H : Hp} {α : Al} {μ : Sto} {σ : L2.St} {ρ : Mi.Env} {f : EF} {k : Bool → Sto → R W} (S : Stor C H α μ) (sl : Sl C H α μ σ ρ) (h : PQ C E Q H α μ ((f ρ μ).test k))
    (cont : ∀ b H1 α1 μ1, Step H α μ H1 α1 μ1 → Stor C H1 α1 μ1 → Sl C H1 α1 μ1 σ ρ → PQ C E Q H1 α1 μ1 (k b μ1) → Q' (.bl b) H1) : tD C E f σ H Q' := by
  refine tD_bind S sl h fun v w H1 α1 μ1 st S1 sl1 r q => ?_
  cases w with
  | d d =>
    cases d with
    | bool b => cases r; exact cont b H1 α1 μ1 st S1 sl1 q
    | none => exact (show False from q).elim
    | int i => exact (show False from q).elim
    | str i => exact (show False from q).elim
    | list i => exact (show False from q).elim
    | tuple i => exact (show False from q).elim
    | dict i => exact (show False from q).elim
  | m k => exact (show False from q).elim
  | f k => exact (show False from q).elim
  | x k => exact (show False from q).elim
  | e _ _ => exact (show False from q).elim
  | es _ => exact (show False from q).elim

section
variable {X : Cx} {T : List (Addr × Str)} {E : XK} {j : Nat} {pos : Pos} {a b c : Expr} {f g h : EF}
/-! ### names, constants -/
theorem de_var (i : Nat) {x : Str} (hN : X.N[i]? = some x := by rfl) (hv : Vis X.env.scope x := by first | exact Or.inl rfl | exact Or.inr (Or.inl rfl) | exact Or.inr (Or.inr rfl)) (hd : (x == ("__debug__" : Str)) = false := by decide)
    (hcd : (x == ("__classdict__" : Str)) = false := by decide) : DE X T E (.Name x pos) (eVar i) := by
  refine pe_imp (pe_var hN hv hd hcd) fun σ H Q ⟨ρ, α, μ, S, sl, q⟩ => ?_
  unfold eVar at q
  split at q
  · rename_i w e
    obtain ⟨v, h1, h2⟩ := sl.at_ i w e
    exact ⟨v, h1, PQ.ok S h2 q⟩
  · exact (show False from q).elim
theorem de_c {e : Expr} {v : V} {d : D} (h : PE X e (tC v)) (r : ∀ K H M, Rp K H M v d) : DE X T E e (eC d) :=
  pe_imp h fun σ H Q ⟨ρ, α, μ, S, sl, q⟩ => PQ.ok (w := .d d) S (r _ _ _) q
theorem de_int {i : Int} {j' : Nat} : DE X T E (.Constant (.int i) j' pos) (eInt i) := de_c pe_int fun _ _ _ => .int i
theorem de_str {x : Str} {j' : Nat} : DE X T E (.Constant (.str x) j' pos) (eStr x) := de_c pe_str fun _ _ _ => .str x
theorem de_bl {x : Bool} {j' : Nat} : DE X T E (.Constant (.bool x) j' pos) (eBl x) := de_c pe_bl fun _ _ _ => .bl x
theorem de_non {j' : Nat} : DE X T E (.Constant .none j' pos) eNon := de_c pe_non fun _ _ _ => .non
/-- a module's int -/
theorem de_gint {x : Str} {i : Int} (hm : ∃ t, X.mg x = some (.int i t)) (hg : Gl X x := by rfl) (hd : (x == ("__debug__" : Str)) = false := by decide) : DE X T E (.Name x pos) (eInt i) := by
  obtain ⟨t, hm⟩ := hm
  exact de_c (pe_glob hg hm (v := .int i) ⟨t, rfl⟩ hd) fun _ _ _ => .int i
/-- a def or a class of the text, as a value -/
theorem de_fn {x : Str} {A : Addr} (hm : X.mg x = some (.ref A)) (hg : Gl X x := by rfl) (hd : (x == ("__debug__" : Str)) = false := by decide) : DE X T E (.Name x pos) (eFn x) :=
  pe_imp (pe_glob hg hm (v := .ref A) rfl hd) fun σ H Q ⟨ρ, α, μ, S, sl, q⟩ => PQ.ok (w := .f x) S ⟨A, hm, rfl⟩ q

/-! ### operators -/
/-- a rule of the machine serves an operator of the mirror -/
def OpS (C : Cv) (op : D → D → Option D) (r : R2) : Prop := ∀ H α μ x y a b z Q, Stor C H α μ → RpT C.K H (Own α μ) x a → RpT C.K H (Own α μ) y b → op a b = some z → (∀ v H', Same H H' → Rp C.K H' (Own α μ) v z → Q v H') → r x y H Q
def UnS (C : Cv) (op : D → Option D) (r : V → Hp → VK → Prop) : Prop := ∀ H α μ x a z Q, Stor C H α μ → RpT C.K H (Own α μ) x a → op a = some z → (∀ v H', Same H H' → Rp C.K H' (Own α μ) v z → Q v H') → r x H Q
theorem OpS.fin {C : Cv} {op : D → D → Option D} {r : R2} (hs : OpS C op r) {H : Hp} {α : Al} {μ : Sto} {x y : V} {w u : W} {Q : VK} (S : Stor C H α μ) (rx : RpW C H α μ x w) (ry : RpW C H α μ y u)
    (q : PQ C E Q H α μ (ofO ((view μ w).bind fun a => (view μ u).bind fun b => (op a b).map W.d) μ)) : r x y H Q := by
  obtain ⟨z, e, q⟩ := PQ.ofO q
  cases e1 : view μ w with
  | none => rw [e1] at e; cases e
  | some a =>
    rw [e1] at e
    cases e2 : view μ u with
    | none => simp [e2] at e
    | some b =>
      simp only [e2, Option.bind_some] at e
      cases e3 : op a b with
      | none => rw [e3] at e; cases e
      | some d =>
        rw [e3] at e
        cases e
        exact hs H α μ x y a b d Q S (rx.view S e1) (ry.view S e2) e3 fun v H' sm rv => q v H' α (Same.step S sm) (S.same sm) rv
theorem UnS.fin {C : Cv} {op : D → Option D} {r : V → Hp → VK → Prop} (hs : UnS C op r) {H : Hp} {α : Al} {μ : Sto} {x : V} {w : W} {Q : VK} (S : Stor C H α μ) (rx : RpW C H α μ x w)
    (q : PQ C E Q H α μ (ofO ((view μ w).bind fun a => (op a).map W.d) μ)) : r x H Q := by
  obtain ⟨z, e, q⟩ := PQ.ofO q
  cases e1 : view μ w with
  | none => rw [e1] at e; cases e
  | some a =>
    simp only [e1, Option.bind_some] at e
    cases e3 : op a with
    | none => rw [e3] at e; cases e
    | some d =>
      rw [e3] at e
      cases e
      exact hs H α μ x a d Q S (rx.view S e1) e3 fun v H' sm rv => q v H' α (Same.step S sm) (S.same sm) rv
theorem op_rd {C : Cv} {op : D → D → Option D} {r : R2} (hs : OpS C op r) {σ : L2.St} {H : Hp} {Q : VK} (q : tD C E (eOp op f g) σ H Q) : tOp r (tD C E f) (tD C E g) σ H Q := by
  obtain ⟨ρ, α, μ, S, sl, q⟩ := q
  refine tD_bind S sl q fun v w H1 α1 μ1 st1 S1 sl1 r1 q1 => ?_
  exact tD_bind S1 sl1 q1 fun u w2 H2 α2 μ2 st2 S2 sl2 r2 q2 => hs.fin S2 (r1.step st2) r2 q2
theorem de_op {o : Operator} {op : D → D → Option D} {r : R2} (ho : OpR X (binaryOp o) r) (hs : OpS (CvX X T) op r) (ha : DE X T E a f) (hb : DE X T E b g) : DE X T E (.BinOp a o b pos) (eOp op f g) :=
  pe_imp (pe_op ho ha hb) fun σ H Q q => op_rd hs q
theorem de_un {o : UnaryOp} {op : D → Option D} {r : V → Hp → VK → Prop} (ho : UnR X (unaryOp o) r) (hs : UnS (CvX X T) op r) (ha : DE X T E a f) : DE X T E (.UnaryOp o a pos) (eUn op f) :=
  pe_imp (pe_un ho ha) fun σ H Q ⟨ρ, α, μ, S, sl, q⟩ => tD_bind S sl q fun v w H1 α1 μ1 st1 S1 sl1 r1 q1 => hs.fin S1 r1 q1
theorem de_cmp {o : CmpOp} {op : D → D → Option D} {r : R2} (ho : OpR X (compareOp o) r) (hs : OpS (CvX X T) op r) (ha : DE X T E a f) (hb : DE X T E b g) (hm : behindInMarks o b = false := by first | exact nomark _ (by decide) (by decide) | with_unfolding_all rfl) : DE X T E (.Compare a [o] [b] pos) (eOp op f g) :=
  pe_imp (pe_cmpR ho ha hb hm) fun σ H Q q => op_rd hs q
theorem dt_cmp {o : CmpOp} {op : D → D → Option D} {r : R2} (ho : OpR X (compareOp o) r) (hs : OpS (CvX X T) op r) (ha : DE X T E a f) (hb : DE X T E b g) (hm : behindInMarks o b = false := by first | exact nomark _ (by decide) (by decide) | with_unfolding_all rfl) : DT X T E (.Compare a [o] [b] pos) (eOp op f g) :=
  pt_imp (pt_cmpR ho ha hb hm) fun σ H Q q => op_rd hs q
theorem chain_rd {C : Cv} {op op' : D → D → Option D} {r r' : R2} (hs : OpS C op r) (hs' : OpS C op' r') {σ : L2.St} {H : Hp} {Q : VK} (q : tD C E (eChain op op' f g h) σ H Q) : tChain r r' (tD C E f) (tD C E g) (tD C E h) σ H Q := by
  obtain ⟨ρ, α, μ, S, sl, q⟩ := q
  refine tD_bind S sl q fun v w H1 α1 μ1 st1 S1 sl1 r1 q1 => ?_
  refine tD_bind S1 sl1 q1 fun u w2 H2 α2 μ2 st2 S2 sl2 r2 q2 => ?_
  have rv := r1.step st2
  cases e1 : view μ2 w with
  | none => simp [e1, ofO, R.test] at q2; exact (show False from q2).elim
  | some x =>
    cases e2 : view μ2 w2 with
    | none => simp [e1, e2, ofO, R.test] at q2; exact (show False from q2).elim
    | some y =>
      cases e3 : op x y with
      | none => simp [e1, e2, e3, ofO, R.test] at q2; exact (show False from q2).elim
      | some z =>
        simp only [e1, e2, e3, Option.bind_some, Option.map_some, ofO_some] at q2
        refine hs H2 α2 μ2 v u x y z _ S2 (rv.view S2 e1) (r2.view S2 e2) e3 fun v3 H3 sm rz => ?_
        cases z with
        | bool k =>
          cases rz
          refine ⟨k, rfl, ?_⟩
          have S3 := S2.same sm
          have st3 : Step H2 α2 μ2 H3 α2 μ2 := Same.step S2 sm
          have q3 := PQ.step q2 st3
          have sl3 := sl2.step st3
          cases k with
          | true =>
            rw [if_pos rfl]
            exact tD_bind S3 sl3 q3 fun v4 w4 H4 α4 μ4 st4 S4 sl4 r4 q4 => hs'.fin S4 ((r2.step st3).step st4) r4 q4
          | false =>
            rw [if_neg Bool.false_ne_true]
            exact PQ.ok (w := .d (.bool false)) S3 (.bl false) q3
        | none => exact (show False from q2).elim
        | int i => exact (show False from q2).elim
        | str i => exact (show False from q2).elim
        | list i => exact (show False from q2).elim
        | tuple i => exact (show False from q2).elim
        | dict i => exact (show False from q2).elim
theorem de_chain {o o' : CmpOp} {op op' : D → D → Option D} {r r' : R2} (ho : OpR X (compareOp o) r) (hs : OpS (CvX X T) op r) (ho' : OpR X (compareOp o') r') (hs' : OpS (CvX X T) op' r') (ha : DE X T E a f) (hb : DE X T E b g) (hc : DE X T E c h)
    (hm : lastMarks [o, o'] [b, c] = false := by with_unfolding_all rfl) : DE X T E (.Compare a [o, o'] [b, c] pos) (eChain op op' f g h) :=
  pe_imp (pe_chain ho ho' ha hb hc hm) fun σ H Q q => chain_rd hs hs' q

theorem chain_test {C : Cv} {op op' : D → D → Option D} {r r' : R2} (hs : OpS C op r) (hs' : OpS C op' r') {σ : L2.St} {H : Hp} {Q : Bool → Hp → Prop} (q : tD C E (eChain op op' f g h) σ H fun v H1 => ∃ b, v = .bl b ∧ Q b H1) : tTest (tChain r r' (tD C E f) (tD C E g) (tD C E h)) σ H Q := chain_rd hs hs' q
theorem dt_chain {o o' : CmpOp} {op op' : D → D → Option D} {r r' : R2} (ho : OpR X (compareOp o) r) (hs : OpS (CvX X T) op r) (ho' : OpR X (compareOp o') r') (hs' : OpS (CvX X T) op' r') (ha : DE X T E a f) (hb : DE X T E b g) (hc : DE X T E c h)
    (hm : lastMarks [o, o'] [b, c] = false := by with_unfolding_all rfl) : DT X T E (.Compare a [o, o'] [b, c] pos) (eChain op op' f g h) :=
  pt_imp (pt_chain ho ho' ha hb hc hm) fun σ H Q q => chain_test hs hs' q

/-! ### and, or, not, if -/
theorem dt_val (ha : DE X T E a f) (he : ∀ whole, isTrue a X.env whole = (do let v ← whole; standAt a.pos; holding [v] (truthy v)) := by intro _; rfl) : DT X T E a f :=
  pt_imp (pt_val ha he) fun σ H Q q => tD_mono q fun v H' z => z
theorem dt_w (h : DW X T E a f) : DT X T E a f := PW.pt h
theorem de_one {o : BoolOp} (ha : DE X T E a f) : DE X T E (.BoolOp o [a] pos) f := pe_one ha
theorem dw_and1 (ha : DT X T E a f) : DW X T E (.BoolOp .And [a] pos) f := pw_and1 ha
theorem dw_or1 (ha : DT X T E a f) : DW X T E (.BoolOp .Or [a] pos) f := pw_or1 ha
variable {rest : List Expr}
theorem PQ.bl {C : Cv} {Q : VK} {H : Hp} {α : Al} {μ : Sto} {b : Bool} (S : Stor C H α μ) (h : PQ C E Q H α μ (.ok (.d (.bool b)) μ)) : Q (.bl b) H := PQ.ok (w := .d (.bool b)) S (.bl b) h
theorem de_and (ha : DE X T E a f) (hb : DE X T E (.BoolOp .And (b :: rest) pos) g) : DE X T E (.BoolOp .And (a :: b :: rest) pos) (eAnd f g) :=
  pe_imp (pe_and ha hb) fun σ H Q ⟨ρ, α, μ, S, sl, q⟩ => tD_test S sl q fun k H1 α1 μ1 st S1 sl1 q1 => ⟨k, rfl, by
    cases k with
    | true => rw [if_pos rfl]; exact ⟨ρ, α1, μ1, S1, sl1, q1⟩
    | false => rw [if_neg Bool.false_ne_true]; exact PQ.bl S1 q1⟩
theorem de_or (ha : DE X T E a f) (hb : DE X T E (.BoolOp .Or (b :: rest) pos) g) : DE X T E (.BoolOp .Or (a :: b :: rest) pos) (eOr f g) :=
  pe_imp (pe_or ha hb) fun σ H Q ⟨ρ, α, μ, S, sl, q⟩ => tD_test S sl q fun k H1 α1 μ1 st S1 sl1 q1 => ⟨k, rfl, by
    cases k with
    | true => rw [if_pos rfl]; exact PQ.bl S1 q1
    | false => rw [if_neg Bool.false_ne_true]; exact ⟨ρ, α1, μ1, S1, sl1, q1⟩⟩
theorem dw_and (ha : DT X T E a f) (hb : DW X T E (.BoolOp .And (b :: rest) pos) g) : DW X T E (.BoolOp .And (a :: b :: rest) pos) (eAnd f g) :=
  pw_imp (pw_and ha hb) fun σ H Q ⟨ρ, α, μ, S, sl, q⟩ => tD_test S sl q fun k H1 α1 μ1 st S1 sl1 q1 => ⟨k, rfl, by
    cases k with
    | true => rw [if_pos rfl]; exact ⟨ρ, α1, μ1, S1, sl1, q1⟩
    | false =>
      rw [if_neg Bool.false_ne_true]
      obtain ⟨b, e, q⟩ := PQ.bl S1 q1
      cases e
      exact q⟩
theorem dw_or (ha : DT X T E a f) (hb : DW X T E (.BoolOp .Or (b :: rest) pos) g) : DW X T E (.BoolOp .Or (a :: b :: rest) pos) (eOr f g) :=
  pw_imp (pw_or ha hb) fun σ H Q ⟨ρ, α, μ, S, sl, q⟩ => tD_test S sl q fun k H1 α1 μ1 st S1 sl1 q1 => ⟨k, rfl, by
    cases k with
    | true =>
      rw [if_pos rfl]
      obtain ⟨b, e, q⟩ := PQ.bl S1 q1
      cases e
      exact q
    | false => rw [if_neg Bool.false_ne_true]; exact ⟨ρ, α1, μ1, S1, sl1, q1⟩⟩
theorem de_not (ha : DE X T E a f) : DE X T E (.UnaryOp .Not a pos) (eNot f) :=
  pe_imp (pe_not ha) fun σ H Q ⟨ρ, α, μ, S, sl, q⟩ => tD_test S sl q fun k H1 α1 μ1 st S1 sl1 q1 => ⟨k, rfl, PQ.bl S1 q1⟩
theorem dt_not (ha : DT X T E a f) : DT X T E (.UnaryOp .Not a pos) (eNot f) :=
  pt_imp (pt_not ha) fun σ H Q ⟨ρ, α, μ, S, sl, q⟩ => tD_test S sl q fun k H1 α1 μ1 st S1 sl1 q1 => ⟨k, rfl, by
    obtain ⟨b, e, q⟩ := PQ.bl S1 q1
    cases e
    exact q⟩
theorem de_if (hc : DT X T E c f) (ha : DE X T E a g) (hb : DE X T E b h) : DE X T E (.IfExp c a b pos) (eIf f g h) :=
  pe_imp (pe_ifExp hc ha hb) fun σ H Q ⟨ρ, α, μ, S, sl, q⟩ => tD_test S sl q fun k H1 α1 μ1 st S1 sl1 q1 => ⟨k, rfl, by
    cases k with
    | true => rw [if_pos rfl] at q1 ⊢; exact ⟨ρ, α1, μ1, S1, sl1, q1⟩
    | false => rw [if_neg Bool.false_ne_true] at q1 ⊢; exact ⟨ρ, α1, μ1, S1, sl1, q1⟩⟩
theorem rp_isNon {C : Cv} {H : Hp} {α : Al} {μ : Sto} {v : V} {w : W} (r : RpW C H α μ v w) : isNonW w = decide (v = .non) := by
  cases w with
  | d d => cases r <;> rfl
  | m k => obtain ⟨a, _, rfl⟩ := r; rfl
  | f k => obtain ⟨a, _, rfl⟩ := r; rfl
  | x k => obtain rfl := r; rfl
  | e c y =>
    cases y with
    | msg m => obtain ⟨a, _, _, rfl, _⟩ := r; rfl
    | lim d => obtain ⟨a, _, _, _, rfl, _⟩ := r; rfl
  | es l => obtain ⟨a, _, rfl, _⟩ := r; rfl
theorem de_isN {j' : Nat} {p' : Pos} (ha : DE X T E a f) : DE X T E (.Compare a [.Is] [.Constant .none j' p'] pos) (eIsN f) :=
  pe_imp (pe_cmp (pc_isN ha)) fun σ H Q ⟨ρ, α, μ, S, sl, q⟩ => tD_bind S sl q fun v w H1 α1 μ1 st S1 sl1 r q1 => by
    have z := PQ.bl S1 q1
    rw [rp_isNon r] at z
    exact z
theorem de_notN {j' : Nat} {p' : Pos} (ha : DE X T E a f) : DE X T E (.Compare a [.IsNot] [.Constant .none j' p'] pos) (eNotN f) :=
  pe_imp (pe_cmp (pc_notN ha)) fun σ H Q ⟨ρ, α, μ, S, sl, q⟩ => tD_bind S sl q fun v w H1 α1 μ1 st S1 sl1 r q1 => by
    have z := PQ.bl S1 q1
    rw [rp_isNon r] at z
    exact z
theorem dt_isN {j' : Nat} {p' : Pos} (ha : DE X T E a f) : DT X T E (.Compare a [.Is] [.Constant .none j' p'] pos) (eIsN f) :=
  pt_imp (pt_cmp (pc_isN ha)) fun σ H Q ⟨ρ, α, μ, S, sl, q⟩ => tD_bind S sl q fun v w H1 α1 μ1 st S1 sl1 r q1 => by
    have z := PQ.bl S1 q1
    rw [rp_isNon r] at z
    exact z
theorem dt_notN {j' : Nat} {p' : Pos} (ha : DE X T E a f) : DT X T E (.Compare a [.IsNot] [.Constant .none j' p'] pos) (eNotN f) :=
  pt_imp (pt_cmp (pc_notN ha)) fun σ H Q ⟨ρ, α, μ, S, sl, q⟩ => tD_bind S sl q fun v w H1 α1 μ1 st S1 sl1 r q1 => by
    have z := PQ.bl S1 q1
    rw [rp_isNon r] at z
    exact z
end
end L3

set_option Elab.async false
set_option linter.all false
set_option maxRecDepth 100000
/-! The operators. -/
namespace L3
open PySem PySem.Spec PyProof.Rows L2 Mi

section
variable {C : Cv} {H : Hp} {α : Al} {μ : Sto} {M : Addr → Prop} {K : PySem.W.Frag}
theorem lim_line {n : Nat} (h : n ≤ LIM) : n ≤ sizeLine := Nat.le_trans h (by decide)
/-- a new list, a new tuple -/
theorem rp_newL {p : Addr} {xs : List V} {ds : List D} (S : Stor C H α μ) (n : H p = none) (r : RpAll C.K H (Own α μ) xs ds) : Same H (upd H p (.lst xs)) ∧ Rp C.K (upd H p (.lst xs)) (Own α μ) (.ref p) (.list ds) :=
  ⟨same_upd n, .lst (.inl upd_same) (S.own_ne n) (r.ext (Same.ext (same_upd n) _))⟩
theorem rp_newT {p : Addr} {xs : List V} {ds : List D} (n : H p = none) (r : RpAll K H M xs ds) : Same H (upd H p (.tup xs)) ∧ Rp K (upd H p (.tup xs)) M (.ref p) (.tuple ds) :=
  ⟨same_upd n, .tup (.inl (.inl upd_same)) (r.ext (Same.ext (same_upd n) _))⟩
end

section
variable {X : Cx} {T : List (Addr × Str)} {C : Cv}
/-! ### + -/
def rCatR : R2 := fun x y H Q => ∃ l b xs zs, x = .ref l ∧ y = .ref b ∧ Rd H l (.lst xs) ∧ Rd H b (.lst zs) ∧ xs.length + zs.length ≤ sizeLine ∧ ∀ p, H p = none → Q (.ref p) (upd H p (.lst (xs ++ zs)))
theorem op_catR : OpR X (binaryOp .Add) rCatR := by
  intro pins s σ H x y v u Q I rx ry h
  obtain ⟨l, b, xs, zs, rfl, rfl, hH, hB, hz, q⟩ := h
  cases rx
  cases ry
  obtain ⟨z, its, n, r, e⟩ := hH.ok I.hok
  obtain ⟨z2, its2, n2, r2, e2⟩ := hB.ok I.hok
  have hl := r.length
  have hl2 := r2.length
  refine PySem.P.add_list e e2 ?_ (by rw [List.size_toArray, List.size_toArray]; omega)
  have ea : its.toArray ++ its2.toArray = (its ++ its2).toArray := by simp
  rw [ea]
  exact ⟨.ref _, _, I.lnew (t' := s.toks) (r.append r2) (by rw [List.length_append]; omega), rfl, q _ I.fresh⟩
def rBI (g : Int → Int → Int) : R2 := fun x y H Q => ∃ b i, x = .bl b ∧ y = .int i ∧ Q (.int (g (bI b) i)) H
theorem op_addBI : OpR X (binaryOp .Add) (rBI (· + ·)) := by
  intro pins s σ H x y v u Q I rx ry h
  obtain ⟨b, i, rfl, rfl, q⟩ := h
  cases rx
  obtain ⟨t, rfl⟩ := ry
  exact PySem.IntBool.add_bool_int ⟨.int (bI b + i), H, I.tok _, ⟨_, rfl⟩, q⟩
theorem op_subBI : OpR X (binaryOp .Sub) (rBI (· - ·)) := by
  intro pins s σ H x y v u Q I rx ry h
  obtain ⟨b, i, rfl, rfl, q⟩ := h
  cases rx
  obtain ⟨t, rfl⟩ := ry
  exact PySem.IntBool.sub_bool_int ⟨.int (bI b - i), H, I.tok _, ⟨_, rfl⟩, q⟩
def rSubA : R2 := fun x y H Q => (rI0 (fun i j => V.int (i - j)) x y H Q) ∨ rBI (· - ·) x y H Q
theorem op_subA : OpR X (binaryOp .Sub) rSubA := op_sub.or op_subBI
theorem gives_neg_bool (a : Bool) : Gives (Builtin.«int.__neg__» ⟨[.bool a], []⟩) (.int (-(bI a))) := .of_eq rfl
theorem un_negB : UnR X (unaryOp .USub) (fun x H Q => ∃ b, x = .bl b ∧ Q (.int (-(bI b))) H) := by
  intro pins s σ H x v Q I rx h
  obtain ⟨b, rfl, q⟩ := h
  cases rx
  exact unaryOp_gives (op := .USub) rfl rfl F.slot_bool_neg F.entry_int_neg (F.args_int_neg_1 _) (gives_neg_bool b) ⟨.int _, H, I.tok _, ⟨_, rfl⟩, q⟩
def rNegA : V → Hp → VK → Prop := fun x H Q => (rU (fun i => .int (-i)) x H Q) ∨ ∃ b, x = .bl b ∧ Q (.int (-(bI b))) H
theorem un_negA : UnR X (unaryOp .USub) rNegA := fun pins s σ H x v Q I rx h => h.elim (un_neg pins s σ H x v Q I rx) (un_negB pins s σ H x v Q I rx)
def rAddA (K : PySem.W.Frag) : R2 := fun x y H Q => (rI0 (fun i j => V.int (i + j)) x y H Q) ∨ ((∃ i j, x = .str i ∧ y = .str j ∧ i.length + j.length ≤ sizeLine ∧ Q (.str (i ++ j)) H) ∨ (rCatR x y H Q ∨ (rCatA K x y H Q ∨ rBI (· + ·) x y H Q)))
theorem op_addA : OpR X (binaryOp .Add) (rAddA X.K) := op_add.or (op_add_str.or (op_catR.or (op_catA.or op_addBI)))
theorem os_add : OpS C dAdd (rAddA C.K) := by
  intro H α μ x y a b z Q S ra rb e q
  unfold dAdd at e
  split at e
  · cases e
    exact .inl ⟨_, _, ra.int, rb.int, q _ H (.refl H) (.int _)⟩
  · cases e
    exact .inr (.inr (.inr (.inr ⟨_, _, ra.bl, rb.int, q _ H (.refl H) (.int _)⟩)))
  · split at e
    · rename_i hl
      cases e
      exact .inr (.inl ⟨_, _, ra.str, rb.str, lim_line hl, q _ H (.refl H) (.str _)⟩)
    · cases e
  · split at e
    · rename_i hl
      cases e
      obtain ⟨p1, xs, rfl, h1, r1⟩ := ra.list
      obtain ⟨p2, ys, rfl, h2, r2⟩ := rb.list
      refine .inr (.inr (.inl ⟨p1, p2, xs, ys, rfl, rfl, h1, h2, by rw [r1.length, r2.length]; exact lim_line hl, fun p n => ?_⟩))
      obtain ⟨sm, rp⟩ := rp_newL S n (r1.append r2)
      exact q _ _ sm rp
    · cases e
  · split at e
    · rename_i hl
      cases e
      obtain ⟨p1, xs, rfl, h1, r1⟩ := ra.tuple
      obtain ⟨p2, ys, rfl, h2, r2⟩ := rb.tuple
      refine .inr (.inr (.inr (.inl ⟨p1, p2, xs, ys, rfl, rfl, h1, h2, by rw [r1.length, r2.length]; exact lim_line hl, fun e => ?_, fun _ e => ?_, fun _ _ p n => ?_⟩)))
      · subst e
        have : _ = ([] : List D) := List.eq_nil_of_length_eq_zero r1.length.symm
        subst this
        exact q _ H (.refl H) (.tup h2 r2)
      · subst e
        have : _ = ([] : List D) := List.eq_nil_of_length_eq_zero r2.length.symm
        subst this
        rw [List.append_nil] at q
        exact q _ H (.refl H) (.tup h1 r1)
      · obtain ⟨sm, rp⟩ := rp_newT n (r1.append r2)
        exact q _ _ sm rp
    · cases e
  · cases e
theorem os_sub : OpS C dSub rSubA := by
  intro H α μ x y a b z Q S ra rb e q
  unfold dSub at e
  split at e
  · cases e
    exact .inl ⟨_, _, ra.int, rb.int, q _ H (.refl H) (.int _)⟩
  · cases e
    exact .inr ⟨_, _, ra.bl, rb.int, q _ H (.refl H) (.int _)⟩
  · cases e
/-! ### * -/
def rRepR : R2 := fun x y H Q => ∃ l k xs, x = .ref l ∧ y = .int k ∧ Rd H l (.lst xs) ∧ -(2 ^ 63) ≤ k ∧ k < 2 ^ 63 ∧ xs.length * k.toNat ≤ sizeLine ∧
  ∀ p, H p = none → Q (.ref p) (upd H p (.lst (List.replicate k.toNat xs).flatten))
theorem abs_lt {i : Int} (h : i.natAbs < 2 ^ 64) : -(2 ^ 64) < i ∧ i < 2 ^ 64 := by omega
/-- ints alone -/
def dMulI : D → D → Option D
  | .int a, .int b => if mulOk a b then some (.int (a * b)) else none
  | _, _ => none
theorem os_mulI : OpS C dMulI (fun x y H Q => (rI CMul (fun i j => V.int (i * j)) x y H Q) ∨ (rI CMulW (fun i j => V.int (i * j)) x y H Q)) := by
  intro H α μ x y a b z Q S ra rb e q
  unfold dMulI at e
  split at e
  · split at e
    · rename_i hl
      cases e
      have q1 := q _ H (.refl H) (.int _)
      rcases hl with (h | h) | ⟨h1, h2⟩
      · exact .inl ⟨_, _, ra.int, rb.int, .inl (abs_lt h), q1⟩
      · exact .inl ⟨_, _, ra.int, rb.int, .inr (abs_lt h), q1⟩
      · exact .inr ⟨_, _, ra.int, rb.int, wide_mul h1 h2 (by decide) (by decide) (by decide), q1⟩
    · cases e
  · cases e
theorem op_mulI : OpR X (binaryOp .Mult) (fun x y H Q => (rI CMul (fun i j => V.int (i * j)) x y H Q) ∨ (rI CMulW (fun i j => V.int (i * j)) x y H Q)) := op_mul.or op_mulW
theorem RpAll.rep {K : PySem.W.Frag} {H : Hp} {M : Addr → Prop} {xs : List V} {ds : List D} (r : RpAll K H M xs ds) : ∀ n, RpAll K H M (List.replicate n xs).flatten (List.replicate n ds).flatten
  | 0 => .nil
  | n + 1 => by rw [List.replicate_succ, List.replicate_succ, List.flatten_cons, List.flatten_cons]; exact r.append (RpAll.rep r n)
theorem fold_rep (us : List Value) (m : Nat) : List.foldl (fun p q => p ++ q) #[] (List.replicate m us.toArray) = (List.replicate m us).flatten.toArray := by
  have h := foldl_rep us m []
  rw [List.nil_append] at h
  exact h
theorem op_repR : OpR X (binaryOp .Mult) rRepR := by
  intro pins s σ H x y v u Q I rx ry hh
  obtain ⟨p, m, vs, rfl, rfl, hR, lo, hi, hsz, q⟩ := hh
  cases rx
  obtain ⟨tk, rfl⟩ := ry
  obtain ⟨zz, us, nn, rv, ob⟩ := hR.ok I.hok
  have ul := rv.length
  have c1 : us.toArray.size * m.toNat ≤ sizeLine := by
    rw [List.size_toArray, ← ul]
    exact hsz
  have c2 : ¬ us.toArray.size * m.toNat > (2 ^ 63 - 1) / 8 := by
    have b : (sizeLine : Nat) ≤ (2 ^ 63 - 1) / 8 := by decide
    omega
  have c3 : ¬ (!Builtin.List.listFitsIndex m) = true := by
    rw [fitsIndex_both lo hi]
    decide
  have c4 : ¬ Builtin.List.listTooLong (us.toArray.size * m.toNat) = true := by
    rw [notLongL c1]
    decide
  have all : List.foldl (fun p q => p ++ q) #[] (List.replicate (if us.toArray.isEmpty = true then 0 else m.toNat) us.toArray) = (List.replicate m.toNat us).flatten.toArray := by
    rw [fold_rep]
    cases us with
    | nil => simp
    | cons a r' => rw [if_neg (by simp)]
  have low := AutoListH.list___mul___list_int_3 p us.toArray nn m tk c3 c2 c4
  have mid := int___rmul___int_list m tk p us.toArray nn
  refine wpAny_binaryOp_repeat_ref (T := "list") (U := "int")
    (by decide) ⟨_, ob, rfl⟩ (fun z => typeIs_int z m tk) noFill_list_mul F.fills_int_mul
    F.slot_int_rmul repeat_list F.slot_int_index.lookup ?_
  refine call_meets F.slot_int_rmul (typeIs_int s m tk)
    F.entry_int_rmul (F.args_int_rmul_2 _ _) mid ⟨ob, rfl, ⟨_, ob, rfl⟩, ?_⟩
  refine call_meets F.slot_list_mul ⟨_, ob, rfl⟩ F.entry_list_mul
    (F.args_list_mul_2 _ _) low ⟨ob, ?_⟩
  rw [all]
  have fits : ((List.replicate m.toNat vs).flatten).length ≤ sizeLine := by
    rw [PyProof.Rows.lm_len_rep_flat, Nat.mul_comm]
    exact hsz
  exact ⟨.ref _, _, I.lnew (t' := s.toks) (rv.rep m.toNat) fits, rfl, q _ I.fresh⟩
def repS (a : Str) (n : Int) : Str := ⟨(List.replicate n.toNat a.cps).foldl (· ++ ·) #[]⟩
def rRepS : R2 := fun x y H Q => ∃ a n, x = .str a ∧ y = .int n ∧ (2 ≤ n ∧ n ≤ 1000 ∧ 1 ≤ a.length ∧ a.length ≤ 1000) ∧ Q (.str (repS a n)) H
theorem op_repS : OpR X (binaryOp .Mult) rRepS := by
  intro pins s σ H x y v u Q I rx ry h
  obtain ⟨a, n, rfl, rfl, ⟨h1, h2, h3, h4⟩, q⟩ := h
  obtain ⟨t, rfl⟩ := rx
  obtain ⟨t', rfl⟩ := ry
  have hm : a.length * n.toNat ≤ 1000 * 1000 := Nat.mul_le_mul h4 (by omega)
  have hl : Builtin.Str.tooLong (a.length * n.toNat) = false := by
    have : ¬ a.length * n.toNat > 2 ^ 24 := by omega
    simpa [Builtin.Str.tooLong, sizeLine] using this
  have c0 : (n == 1 || a.length == 0) = false := by
    have e1 : (n == 1) = false := beq_eq_false_iff_ne.mpr (by omega)
    have e2 : (a.length == 0) = false := beq_eq_false_iff_ne.mpr (by omega)
    rw [e1, e2]; rfl
  refine PySem.P.mul_str ?_ (fun _ _ => ?_) (fun _ _ => hl) ?_
  · have e1 : ¬ n < -(2 ^ 63 : Int) := by omega
    have e2 : ¬ n ≥ 2 ^ 63 := by omega
    rw [decide_eq_false e1, decide_eq_false e2]; rfl
  · have : (1000 : Int) ≤ (2 ^ 63 - 1) / n := by
      refine (Int.le_ediv_iff_mul_le (by omega)).mpr ?_
      omega
    omega
  · rw [if_neg (by omega), c0]
    exact ⟨fits_reps hl, .str (repS a n), H, I.tok _, ⟨_, rfl⟩, q⟩
def rMulA (K : PySem.W.Frag) : R2 := fun x y H Q => (rI CMul (fun i j => V.int (i * j)) x y H Q) ∨ ((rI CMulW (fun i j => V.int (i * j)) x y H Q) ∨ (rRepR x y H Q ∨ (rRepT K x y H Q ∨ rRepS x y H Q)))
theorem op_mulA : OpR X (binaryOp .Mult) (rMulA X.K) := op_mul.or (op_mulW.or (op_repR.or (op_repT.or op_repS)))
theorem os_mul : OpS C dMul (rMulA C.K) := by
  intro H α μ x y a b z Q S ra rb e q
  unfold dMul at e
  split at e
  · split at e
    · rename_i hl
      cases e
      have q1 := q _ H (.refl H) (.int _)
      rcases hl with (h | h) | ⟨h1, h2⟩
      · exact .inl ⟨_, _, ra.int, rb.int, .inl (abs_lt h), q1⟩
      · exact .inl ⟨_, _, ra.int, rb.int, .inr (abs_lt h), q1⟩
      · exact .inr (.inl ⟨_, _, ra.int, rb.int, wide_mul h1 h2 (by decide) (by decide) (by decide), q1⟩)
    · cases e
  · rename_i l n
    split at e
    · rename_i hl
      obtain ⟨l1, l2, l3⟩ := hl
      cases e
      obtain ⟨p1, xs, rfl, h1, r1⟩ := ra.list
      have hb := rb.int
      subst hb
      have e1 := r1.length
      have hm : xs.length * n.toNat ≤ sizeLine := Nat.le_trans (Nat.mul_le_mul (show xs.length ≤ 1000 by omega) (show n.toNat ≤ 1000 by omega)) (by decide)
      refine .inr (.inr (.inl ⟨p1, n, xs, rfl, rfl, h1, by omega, by omega, hm, fun p np => ?_⟩))
      obtain ⟨sm, rp⟩ := rp_newL S np (r1.rep n.toNat)
      exact q _ _ sm rp
    · cases e
  · rename_i l n
    split at e
    · rename_i hl
      obtain ⟨l1, l2, l3, l4⟩ := hl
      cases e
      obtain ⟨p1, xs, rfl, h1, r1⟩ := ra.tuple
      have hb := rb.int
      subst hb
      have e1 := r1.length
      refine .inr (.inr (.inr (.inl ⟨p1, n, xs, rfl, rfl, h1, fun z => l4 ?_, l1, l2, by omega, fun p np => ?_⟩)))
      · subst z
        exact List.eq_nil_of_length_eq_zero e1.symm
      · obtain ⟨sm, rp⟩ := rp_newT np (r1.rep n.toNat)
        exact q _ _ sm rp
    · cases e
  · split at e
    · rename_i hl
      cases e
      exact .inr (.inr (.inr (.inr ⟨_, _, ra.str, rb.int, hl, q _ H (.refl H) (.str _)⟩)))
    · cases e
  · cases e
def CDivA (_ j : Int) : Prop := j ≠ 0 ∧ j.natAbs.log2 < 9000
theorem op_fdivA {X : Cx} : OpR X (binaryOp .FloorDiv) (rI CDivA fun i j => .int (i.fdiv j)) := opI fun _ _ _ _ _ _ _ hc q => floordiv_int hc.1 q (.inl (PyProof.noPylong_of_log2 hc.2))
theorem log_of {j : Int} (h0 : j ≠ 0) (h : j.natAbs < 2 ^ 1000) : CDivA j j := ⟨h0, Nat.lt_of_lt_of_le (PySem.Flt.log2_lt_of (k := 1000) (by decide) h) (by decide)⟩
theorem os_div : OpS C dDiv (rI CDivA fun i j => .int (i.fdiv j)) := by
  intro H α μ x y a b z Q S ra rb e q
  unfold dDiv at e
  split at e
  · rename_i i j
    split at e
    · rename_i hl
      cases e
      have h1 := hl.1
      have h2 := hl.2
      refine ⟨_, _, ra.int, rb.int, log_of (by omega) (by omega), ?_⟩
      show Q (.int (i.fdiv j)) H
      rw [Int.fdiv_eq_ediv_of_nonneg i (by omega)]
      exact q _ H (.refl H) (.int _)
    · split at e
      · rename_i hl
        cases e
        have h1 := hl.1
        exact ⟨_, _, ra.int, rb.int, log_of (by omega) hl.2, q _ H (.refl H) (.int _)⟩
      · cases e
  · cases e
theorem os_mod : OpS C dMod (rI (fun _ j => j ≠ 0) fun i j => .int (i.fmod j)) := by
  intro H α μ x y a b z Q S ra rb e q
  unfold dMod at e
  split at e
  · rename_i i j
    split at e
    · rename_i hl
      cases e
      refine ⟨_, _, ra.int, rb.int, by omega, ?_⟩
      show Q (.int (i.fmod j)) H
      rw [Int.fmod_eq_emod_of_nonneg i (by omega)]
      exact q _ H (.refl H) (.int _)
    · split at e
      · rename_i hl
        cases e
        exact ⟨_, _, ra.int, rb.int, by omega, q _ H (.refl H) (.int _)⟩
      · cases e
  · cases e
theorem os_pow : OpS C dPow (rI CPow fun i j => .int (i ^ j.toNat)) := by
  intro H α μ x y a b z Q S ra rb e q
  unfold dPow at e
  split at e
  · split at e
    · rename_i hl
      cases e
      exact ⟨_, _, ra.int, rb.int, ⟨hl.1, Int.le_trans hl.2.1 (by decide), hl.2.2⟩, q _ H (.refl H) (.int _)⟩
    · cases e
  · cases e
theorem os_neg : UnS C dNeg rNegA := by
  intro H α μ x a z Q S ra e q
  unfold dNeg at e
  split at e
  · cases e
    exact .inl ⟨_, ra.int, q _ H (.refl H) (.int _)⟩
  · cases e
    exact .inr ⟨_, ra.bl, q _ H (.refl H) (.int _)⟩
  · cases e
theorem os_cmpI {p : Int → Int → Bool} : OpS C (cmpI p) (rI0 fun i j => .bl (p i j)) := by
  intro H α μ x y a b z Q S ra rb e q
  unfold cmpI at e
  split at e
  · cases e
    exact ⟨_, _, ra.int, rb.int, q _ H (.refl H) (.bl _)⟩
  · cases e
theorem os_eq : OpS C dEq (rEqD C.K) := by
  intro H α μ x y a b z Q S ra rb e q
  unfold dEq at e
  split at e
  · rename_i h
    cases e
    exact ⟨_, _, ra.dp, rb.dp, h.1, h.2, q _ H (.refl H) (.bl _)⟩
  · cases e
theorem os_ne : OpS C dNe (rNeD C.K) := by
  intro H α μ x y a b z Q S ra rb e q
  unfold dNe at e
  split at e
  · rename_i h
    cases e
    exact ⟨_, _, ra.dp, rb.dp, h.1, h.2, q _ H (.refl H) (.bl _)⟩
  · cases e
/-! ### an item -/
theorem os_ix : OpS C dIx (fun x y H Q => rIxL C.K x y H Q ∨ rIxT C.K x y H Q) := by
  intro H α μ x y a b z Q S ra rb e q
  have key : ∀ {n : Nat} {i : Int}, ixI n i = ixN n i := rfl
  unfold dIx at e
  split at e
  · rename_i l i
    obtain ⟨p1, xs, rfl, h1, r1⟩ := ra.list
    have hb := rb.int
    subst hb
    cases e1 : ixI l.length i with
    | none => rw [e1] at e; cases e
    | some k =>
      rw [e1] at e
      obtain ⟨v, h2, h3⟩ := r1.get (show l[k]? = some z from e)
      refine .inl ⟨p1, xs, i, v, rfl, rfl, .inl h1, ?_, q _ H (.refl H) h3⟩
      show (ixN xs.length i).bind (fun j => xs[j]?) = some v
      rw [r1.length, ← key, e1]
      exact h2
  · rename_i l i
    obtain ⟨p1, xs, rfl, h1, r1⟩ := ra.tuple
    have hb := rb.int
    subst hb
    cases e1 : ixI l.length i with
    | none => rw [e1] at e; cases e
    | some k =>
      rw [e1] at e
      obtain ⟨v, h2, h3⟩ := r1.get (show l[k]? = some z from e)
      refine .inr ⟨p1, xs, i, v, rfl, rfl, h1, ?_, q _ H (.refl H) h3⟩
      show (ixN xs.length i).bind (fun j => xs[j]?) = some v
      rw [r1.length, ← key, e1]
      exact h2
  · cases e
/-! ### a slice -/
theorem six_eq (n d : Nat) (o : Option Int) : six n d o = HT.sIx n d o := by cases o <;> rfl
theorem RpAll.cut {K : PySem.W.Frag} {H : Hp} {M : Addr → Prop} {xs : List V} {ds : List D} (r : RpAll K H M xs ds) (lo hi : Option Int) : RpAll K H M (cutV xs lo hi) (cutL ds lo hi) := by
  unfold cutV cutL
  rw [six_eq, six_eq, r.length]
  exact (r.drop _).take _
theorem cut_all {xs : List V} {lo hi : Option Int} (h : HT.sIx xs.length 0 lo = 0 ∧ HT.sIx xs.length xs.length hi = xs.length) : cutV xs lo hi = xs := by
  unfold cutV
  rw [h.1, h.2]
  simp
theorem os_cut (S : Stor C H α μ) {x : V} {a z : D} {lo hi : Option Int} {Q : VK} (ra : RpT C.K H (Own α μ) x a) (e : dCut a lo hi = some z) (q : ∀ v H', Same H H' → Rp C.K H' (Own α μ) v z → Q v H') : (rSlL C.K x lo hi H Q ∨ rSlA C.K x lo hi H Q) ∨ rSlS x lo hi H Q := by
  unfold dCut at e
  split at e
  · split at e
    · rename_i hl
      cases e
      have hx := ra.str
      subst hx
      exact .inr ⟨_, rfl, lim_line hl, q _ H (.refl H) (.str _)⟩
    · cases e
  · cases e
    obtain ⟨p1, xs, rfl, h1, r1⟩ := ra.list
    refine .inl (.inl ⟨p1, xs, rfl, .inl h1, fun p np => ?_⟩)
    obtain ⟨sm, rp⟩ := rp_newL S np (r1.cut _ _)
    exact q _ _ sm rp
  · cases e
    obtain ⟨p1, xs, rfl, h1, r1⟩ := ra.tuple
    refine .inl (.inr ⟨p1, xs, rfl, h1, fun hw => ?_, fun hw p np => ?_⟩)
    · refine q _ H (.refl H) (.tup h1 ?_)
      have := r1.cut lo hi
      rw [cut_all hw] at this
      exact this
    · obtain ⟨sm, rp⟩ := rp_newT np (r1.cut _ _)
      exact q _ _ sm rp
  · cases e
end
/-! ### is True -/
section
variable {X : Cx} {C : Cv}
def rIsB (g : Bool → Bool → Bool) : R2 := fun x y H Q => ∃ i j, x = .bl i ∧ y = .bl j ∧ Q (.bl (g i j)) H
theorem op_isB : OpR X (compareOp .Is) (rIsB fun i j => i == j) := by
  intro pins s σ H x y v u Q I rx ry h
  obtain ⟨i, j, rfl, rfl, q⟩ := h
  cases rx
  cases ry
  exact is_bool ⟨.bl (i == j), H, I, rfl, q⟩
theorem op_isNotB : OpR X (compareOp .IsNot) (rIsB fun i j => i != j) := by
  intro pins s σ H x y v u Q I rx ry h
  obtain ⟨i, j, rfl, rfl, q⟩ := h
  cases rx
  cases ry
  exact isnot_bool ⟨.bl (i != j), H, I, rfl, q⟩
theorem os_isB : OpS C dIsB (rIsB fun i j => i == j) := by
  intro H α μ x y a b z Q S ra rb e q
  unfold dIsB at e
  split at e
  · cases e
    exact ⟨_, _, ra.bl, rb.bl, q _ H (.refl H) (.bl _)⟩
  · cases e
theorem os_isNotB : OpS C dIsNotB (rIsB fun i j => i != j) := by
  intro H α μ x y a b z Q S ra rb e q
  unfold dIsNotB at e
  split at e
  · cases e
    exact ⟨_, _, ra.bl, rb.bl, q _ H (.refl H) (.bl _)⟩
  · cases e
end
end L3

set_option Elab.async false
set_option linter.all false
set_option maxRecDepth 100000
/-! Arguments, displays, subscripts, slices, calls of builtins and of defs. -/
namespace L3
open PySem PySem.Spec PyProof.Rows L2 Mi

section
variable {C : Cv} {E : XK}
/-! ### membership -/
theorem Rp.flat {K : PySem.W.Frag} {H : Hp} {M : Addr → Prop} {v : V} {d : D} (r : Rp K H M v d) (h : flatD d = true) : flatV v = true := by
  cases r <;> first | rfl | cases h
theorem Rp.eqv {K : PySem.W.Frag} {H : Hp} {M : Addr → Prop} {v u : V} {d e : D} (r : Rp K H M v d) (q : Rp K H M u e) (h : flatD d = true) (h' : flatD e = true) : eqV v u = PyData.eqv d e := by
  cases r with
  | lst _ _ _ => cases h
  | tup _ _ => cases h
  | non => cases q <;> first | rfl | cases h'
  | bl b => cases q <;> first | rfl | cases h'
  | int b => cases q <;> first | rfl | cases h'
  | str b => cases q <;> first | rfl | cases h'

theorem RpAll.flat {K : PySem.W.Frag} {H : Hp} {M : Addr → Prop} : ∀ {vs : List V} {ds : List D}, RpAll K H M vs ds → ds.all flatD = true → vs.all flatV = true
  | _, _, .nil, _ => rfl
  | _, _, .cons r t, h => by
    rw [List.all_cons, Bool.and_eq_true] at h
    rw [List.all_cons, r.flat h.1, RpAll.flat t h.2]
    rfl
theorem RpAll.inV {K : PySem.W.Frag} {H : Hp} {M : Addr → Prop} {u : V} {e : D} (q : Rp K H M u e) (he : flatD e = true) : ∀ {vs : List V} {ds : List D}, RpAll K H M vs ds → ds.all flatD = true → L2.inV u vs = ds.any fun y => PyData.eqv y e
  | _, _, .nil, _ => rfl
  | _, _, .cons r t, h => by
    rw [List.all_cons, Bool.and_eq_true] at h
    have ih := RpAll.inV q he t h.2
    unfold L2.inV at ih ⊢
    rw [List.any_cons, List.any_cons, r.eqv q h.1 he, ih]
theorem RpT.flat {K : PySem.W.Frag} {H : Hp} {M : Addr → Prop} {v : V} {d : D} (r : RpT K H M v d) (h : flatD d = true) : Rp K H M v d := by
  rcases r with r | ⟨a, xs, ds, rfl, rfl, _⟩
  · exact r
  · cases h
def rInA (K : PySem.W.Frag) (neg : Bool) : R2 := fun x y H Q => rIn K neg x y H Q ∨ (∃ (c : Nat) (z : Str), x = .str ⟨#[c]⟩ ∧ y = .str z ∧ Q (.bl (if neg then !decide (c ∈ z.cps.toList) else decide (c ∈ z.cps.toList))) H)
theorem op_inA {X : Cx} : OpR X (compareOp .In) (rInA X.K false) := op_in_seq.or op_in_sign
theorem op_notInA {X : Cx} : OpR X (compareOp .NotIn) (rInA X.K true) := op_notIn_seq.or op_notIn_sign
theorem str1 {x : Str} (h : x.cps.size = 1) : x = ⟨#[x.cps.getD 0 0]⟩ := by
  obtain ⟨⟨l⟩⟩ := x
  match l, h with
  | [a], _ => rfl
theorem in_core {neg : Bool} {H : Hp} {α : Al} {μ : Sto} {x y : V} {a b : D} {k : Bool} {Q : VK} (S : Stor C H α μ) (ra : RpT C.K H (Own α μ) x a) (rb : RpT C.K H (Own α μ) y b) (e : dIn a b = some (.bool k)) (q : Q (.bl (if neg then !k else k)) H) : rInA C.K neg x y H Q := by
  unfold dIn at e
  split at e
  · rename_i l
    split at e
    · rename_i h
      injection e with e
      injection e with e
      obtain ⟨p1, xs, rfl, h1, r1⟩ := rb.list
      have r0 := ra.flat h.1
      exact .inl ⟨p1, xs, rfl, .inl (.inl h1), r0.flat h.1, r1.flat h.2, by rw [r1.inV r0 h.1 h.2, e]; exact q⟩
    · cases e
  · rename_i l
    split at e
    · rename_i h
      injection e with e
      injection e with e
      obtain ⟨p1, xs, rfl, h1, r1⟩ := rb.tuple
      have r0 := ra.flat h.1
      exact .inl ⟨p1, xs, rfl, .inr h1, r0.flat h.1, r1.flat h.2, by rw [r1.inV r0 h.1 h.2, e]; exact q⟩
    · cases e
  · split at e
    · rename_i h
      injection e with e
      injection e with e
      have h1 := ra.str
      have h2 := rb.str
      subst h1 h2
      exact .inr ⟨_, _, by rw [← str1 h], rfl, by rw [e]; exact q⟩
    · cases e
  · cases e
theorem dIn_bool {a b z : D} (e : dIn a b = some z) : ∃ k, z = .bool k := by
  unfold dIn at e
  split at e
  · split at e
    · cases e; exact ⟨_, rfl⟩
    · cases e
  · split at e
    · cases e; exact ⟨_, rfl⟩
    · cases e
  · split at e
    · cases e; exact ⟨_, rfl⟩
    · cases e
  · cases e
theorem os_in : OpS C dIn (rInA C.K false) := by
  intro H α μ x y a b z Q S ra rb e q
  obtain ⟨k, rfl⟩ := dIn_bool e
  exact in_core S ra rb e (q _ H (.refl H) (.bl k))
theorem os_notIn : OpS C dNotIn (rInA C.K true) := by
  intro H α μ x y a b z Q S ra rb e q
  unfold dNotIn at e
  split at e
  · rename_i k e1
    cases e
    exact in_core S ra rb e1 (q _ H (.refl H) (.bl (!k)))
  · cases e

/-! ### argument lists -/
def PQs (C : Cv) (E : XK) (Q : List V → Hp → Prop) (H : Hp) (α : Al) (μ : Sto) : R (List W) → Prop
  | .ok ws μ' => ∀ vs H' α', Step H α μ H' α' μ' → Stor C H' α' μ' → RpWs C H' α' μ' vs ws → Q vs H'
  | .er x μ' => ∀ cls d H' α', Step H α μ H' α' μ' → Stor C H' α' μ' → RpX C H' cls d x → E cls d H'
  | .no => False
def tDs (C : Cv) (E : XK) (a : AF) : TA := fun σ H Q => ∃ ρ α μ, Stor C H α μ ∧ Sl C H α μ σ ρ ∧ PQs C E Q H α μ (a ρ μ)
theorem PQs.step {Q : List V → Hp → Prop} {H H1 : Hp} {α α1 : Al} {μ μ1 : Sto} {r : R (List W)} (h : PQs C E Q H α μ r) (st : Step H α μ H1 α1 μ1) : PQs C E Q H1 α1 μ1 r := by
  cases r with
  | ok w μ' => exact fun v H' α' s S q => h v H' α' (st.trans s) S q
  | er x μ' => exact fun cls d H' α' s S q => h cls d H' α' (st.trans s) S q
  | no => exact h
theorem tD_binds {Q' : VK} {Q : List V → Hp → Prop} {H : Hp} {α : Al} {μ : Sto} {σ : L2.St} {ρ : Mi.Env} {f : EF} {k : W → Sto → R (List W)} (S : Stor C H α μ) (sl : Sl C H α μ σ ρ) (h : PQs C E Q H α μ ((f ρ μ).bind k))
    (cont : ∀ v w H1 α1 μ1, Step H α μ H1 α1 μ1 → Stor C H1 α1 μ1 → Sl C H1 α1 μ1 σ ρ → RpW C H1 α1 μ1 v w → PQs C E Q H1 α1 μ1 (k w μ1) → Q' v H1) : tD C E f σ H Q' := by
  refine ⟨ρ, α, μ, S, sl, ?_⟩
  cases e : f ρ μ with
  | ok w μ1 =>
    rw [e] at h
    exact fun v H1 α1 st S1 r => cont v w H1 α1 μ1 st S1 (sl.step st) r (PQs.step (r := k w μ1) h st)
  | er x μ1 => rw [e] at h; exact h
  | no => rw [e] at h; exact (show False from h).elim
theorem tDs_binds {Q Q' : List V → Hp → Prop} {H : Hp} {α : Al} {μ : Sto} {σ : L2.St} {ρ : Mi.Env} {f : AF} {k : List W → Sto → R (List W)} (S : Stor C H α μ) (sl : Sl C H α μ σ ρ) (h : PQs C E Q H α μ ((f ρ μ).bind k))
    (cont : ∀ v w H1 α1 μ1, Step H α μ H1 α1 μ1 → Stor C H1 α1 μ1 → Sl C H1 α1 μ1 σ ρ → RpWs C H1 α1 μ1 v w → PQs C E Q H1 α1 μ1 (k w μ1) → Q' v H1) : tDs C E f σ H Q' := by
  refine ⟨ρ, α, μ, S, sl, ?_⟩
  cases e : f ρ μ with
  | ok w μ1 =>
    rw [e] at h
    exact fun v H1 α1 st S1 r => cont v w H1 α1 μ1 st S1 (sl.step st) r (PQs.step (r := k w μ1) h st)
  | er x μ1 => rw [e] at h; exact h
  | no => rw [e] at h; exact (show False from h).elim
theorem tDs_bind {Q : VK} {Q' : List V → Hp → Prop} {H : Hp} {α : Al} {μ : Sto} {σ : L2.St} {ρ : Mi.Env} {f : AF} {k : List W → Sto → R W} (S : Stor C H α μ) (sl : Sl C H α μ σ ρ) (h : PQ C E Q H α μ ((f ρ μ).bind k))
    (cont : ∀ v w H1 α1 μ1, Step H α μ H1 α1 μ1 → Stor C H1 α1 μ1 → Sl C H1 α1 μ1 σ ρ → RpWs C H1 α1 μ1 v w → PQ C E Q H1 α1 μ1 (k w μ1) → Q' v H1) : tDs C E f σ H Q' := by
  refine ⟨ρ, α, μ, S, sl, ?_⟩
  cases e : f ρ μ with
  | ok w μ1 =>
    rw [e] at h
    exact fun v H1 α1 st S1 r => cont v w H1 α1 μ1 st S1 (sl.step st) r (PQ.step (r := k w μ1) h st)
  | er x μ1 => rw [e] at h; exact h
  | no => rw [e] at h; exact (show False from h).elim
theorem RpWs.asDs {H : Hp} {α : Al} {μ : Sto} : ∀ {vs : List V} {ws : List W} {ds : List D}, RpWs C H α μ vs ws → Mi.asDs ws = some ds → RpAll C.K H (Own α μ) vs ds
  | _, _, _, .nil, e => by cases e; exact .nil
  | _, .d d :: ws, _, .cons r t, e => by
    rw [asDs_cons] at e
    cases e1 : Mi.asDs ws with
    | none => rw [e1] at e; cases e
    | some ds =>
      rw [e1] at e
      cases e
      exact .cons r (RpWs.asDs t e1)
  | _, .m k :: ws, _, .cons r t, e => by cases e
  | _, .f k :: ws, _, .cons r t, e => by cases e
  | _, .x k :: ws, _, .cons r t, e => by cases e
  | _, .e _ _ :: ws, _, .cons r t, e => by cases e
  | _, .es _ :: ws, _, .cons r t, e => by cases e
inductive RpTs (C : Cv) (H : Hp) (M : Addr → Prop) : List V → List D → Prop
  | nil : RpTs C H M [] []
  | cons {v : V} {vs : List V} {d : D} {ds : List D} : RpT C.K H M v d → RpTs C H M vs ds → RpTs C H M (v :: vs) (d :: ds)
theorem RpWs.views {H : Hp} {α : Al} {μ : Sto} (S : Stor C H α μ) : ∀ {vs : List V} {ws : List W} {ds : List D}, RpWs C H α μ vs ws → Mi.views μ ws = some ds → RpTs C H (Own α μ) vs ds
  | _, _, _, .nil, e => by cases e; exact .nil
  | _, w :: ws, _, .cons r t, e => by
    unfold Mi.views at e
    cases e1 : Mi.view μ w with
    | none => rw [e1] at e; cases e
    | some d =>
      rw [e1] at e
      cases e2 : Mi.views μ ws with
      | none => simp [e2] at e
      | some ds =>
        simp only [e2, Option.bind_some, Option.map_some, Option.some.injEq] at e
        subst e
        exact .cons (r.view S e1) (RpWs.views S t e2)
end

section
variable {X : Cx} {T : List (Addr × Str)} {E : XK} {j : Nat} {pos : Pos} {a b c : Expr} {f g h : EF} {es : List Expr} {r : AF}
structure DA (X : Cx) (T : List (Addr × Str)) (E : XK) (es : List Expr) (a : AF) : Prop where
  pa : PA X es (tDs (CvX X T) E a)
  len : ∀ ρ μ ws μ', a ρ μ = .ok ws μ' → ws.length = es.length
theorem pa_imp {t t' : TA} (h : PA X es t) (i : ∀ σ H Q, t' σ H Q → t σ H Q) : PA X es t' := ⟨fun ps pins s σ H Q I q => h.run ps pins s σ H Q I (i _ _ _ q)⟩
theorem da_nil : DA X T E [] aNil :=
  ⟨pa_imp pa_nil fun σ H Q ⟨ρ, α, μ, S, sl, q⟩ => q [] H α (.refl _ _ _) S .nil, fun ρ μ ws μ' e => by cases e; rfl⟩
theorem da_cons (ha : DE X T E a f) (hr : DA X T E es r) (hs : starEach (a :: es) X.env = (false, eval a X.env) :: starEach es X.env := by rfl) : DA X T E (a :: es) (aCons f r) := by
  refine ⟨pa_imp (pa_cons ha hr.pa hs) fun σ H Q ⟨ρ, α, μ, S, sl, q⟩ => ?_, fun ρ μ ws μ' e => ?_⟩
  · refine tD_binds S sl q fun v w H1 α1 μ1 st1 S1 sl1 r1 q1 => ?_
    exact tDs_binds S1 sl1 q1 fun vs ws H2 α2 μ2 st2 S2 sl2 r2 q2 => q2 (v :: vs) H2 α2 (.refl _ _ _) S2 (.cons (r1.step st2) r2)
  · unfold aCons at e
    cases e1 : f ρ μ with
    | ok w μ1 =>
      rw [e1] at e
      cases e2 : r ρ μ1 with
      | ok ws2 μ2 =>
        rw [R.bind_ok, e2, R.bind_ok] at e
        cases e
        exact congrArg (· + 1) (hr.len ρ μ1 ws2 _ e2)
      | er x μ2 => rw [R.bind_ok, e2] at e; cases e
      | no => rw [R.bind_ok, e2] at e; cases e
    | er x μ1 => rw [e1] at e; cases e
    | no => rw [e1] at e; cases e
theorem DA.read (hr : DA X T E es r) {C : Cv} {Q : VK} {H : Hp} {α : Al} {μ : Sto} {σ : L2.St} {ρ : Mi.Env} {k : List W → Sto → R W} {Q' : List V → Hp → Prop} (S : Stor (CvX X T) H α μ) (sl : Sl (CvX X T) H α μ σ ρ) (q : PQ (CvX X T) E Q H α μ ((r ρ μ).bind k))
    (cont : ∀ v w H1 α1 μ1, Step H α μ H1 α1 μ1 → Stor (CvX X T) H1 α1 μ1 → Sl (CvX X T) H1 α1 μ1 σ ρ → RpWs (CvX X T) H1 α1 μ1 v w → w.length = es.length → PQ (CvX X T) E Q H1 α1 μ1 (k w μ1) → Q' v H1) : tDs (CvX X T) E r σ H Q' := by
  refine ⟨ρ, α, μ, S, sl, ?_⟩
  cases e : r ρ μ with
  | ok w μ1 =>
    rw [e] at q
    exact fun v H1 α1 st S1 rr => cont v w H1 α1 μ1 st S1 (sl.step st) rr (hr.len _ _ _ _ e) (PQ.step (r := k w μ1) q st)
  | er x μ1 => rw [e] at q; exact q
  | no => rw [e] at q; exact (show False from q).elim
/-! ### displays -/
theorem de_tup {k : Nat} (hr : DA X T E es r) (hl : es.length ≤ 1000 := by decide) : DE X T E (.Tuple es k pos) (eTup r) :=
  pe_imp (pe_tup hr.pa) fun σ H Q ⟨ρ, α, μ, S, sl, q⟩ => hr.read (C := CvX X T) S sl q fun vs ws H1 α1 μ1 st S1 sl1 rs ln q1 => by
    obtain ⟨z, e, q2⟩ := PQ.ofO q1
    cases e1 : Mi.asDs ws with
    | none => rw [e1] at e; cases e
    | some ds =>
      rw [e1] at e
      cases e
      refine ⟨by rw [rs.length, ln]; exact Nat.le_trans hl (by decide), fun p np => ?_⟩
      obtain ⟨sm, rp⟩ := rp_newT np (rs.asDs e1)
      exact q2 _ _ _ (Same.step S1 sm) (S1.same sm) rp
theorem de_lst (hr : DA X T E es r) (hl : es.length ≤ 1000 := by decide) : DE X T E (.List es pos) (eLst r) :=
  pe_imp (pe_lst hr.pa) fun σ H Q ⟨ρ, α, μ, S, sl, q⟩ => hr.read (C := CvX X T) S sl q fun vs ws H1 α1 μ1 st S1 sl1 rs ln q1 => by
    obtain ⟨z, e, q2⟩ := PQ.ofO q1
    cases e1 : Mi.asDs ws with
    | none => rw [e1] at e; cases e
    | some ds =>
      rw [e1] at e
      cases e
      refine ⟨by rw [rs.length, ln]; exact Nat.le_trans hl (by decide), fun p np => ?_⟩
      obtain ⟨sm, rp⟩ := rp_newL S1 np (rs.asDs e1)
      exact q2 _ _ _ (Same.step S1 sm) (S1.same sm) rp
end
section
variable {C : Cv} {H : Hp} {α : Al} {μ : Sto}
/-- what was not tracked becomes one's own -/
def Al.push (α : Al) (p : Addr) : Al := ⟨α.own ++ [p], α.hid⟩
theorem own_push {p : Addr} {c : Cell} {a : Addr} (hl : α.own.length = μ.length) : Own (α.push p) (μ ++ [some c]) a ↔ Own α μ a ∨ a = p := by
  constructor
  · rintro (⟨k, d, h1, h2⟩ | h)
    · have h1 : (α.own ++ [p])[k]? = some a := h1
      by_cases hk : k < α.own.length
      · rw [List.getElem?_append_left hk] at h1
        rw [List.getElem?_append_left (by omega)] at h2
        exact .inl (.inl ⟨k, d, h1, h2⟩)
      · rw [List.getElem?_append_right (by omega)] at h1
        by_cases hz : k - α.own.length = 0
        · rw [hz] at h1
          exact .inr (Option.some.inj h1).symm
        · rw [List.getElem?_eq_none (by simp; omega)] at h1
          cases h1
    · exact .inl (.inr h)
  · rintro ((⟨k, d, h1, h2⟩ | h) | rfl)
    · have hk : k < α.own.length := (List.getElem?_eq_some_iff.mp h1).1
      have hk2 : k < μ.length := (List.getElem?_eq_some_iff.mp h2).1
      exact .inl ⟨k, d, by show (α.own ++ [p])[k]? = _; rw [List.getElem?_append_left hk]; exact h1, by rw [List.getElem?_append_left hk2]; exact h2⟩
    · exact .inr h
    · exact .inl ⟨α.own.length, c, by show (α.own ++ [a])[_]? = _; rw [List.getElem?_append_right (Nat.le_refl _)]; simp, by rw [hl, List.getElem?_append_right (Nat.le_refl _)]; simp⟩
theorem step_push (S : Stor C H α μ) {p : Addr} {xs : List V} {ds : List D} (np : H p = none) : Step H α μ (upd H p (.lst xs)) (α.push p) (μ ++ [some (.lst ds)]) := by
  refine ⟨⟨fun b o h n _ => ⟨same_upd np b o h, fun z => ?_⟩, fun b xs h => same_upd np b _ h, fun b o u h => same_upd np b _ h⟩, fun k a h => ?_, rfl, (Same.step S (same_upd np)).keep⟩
  · rcases (own_push S.len).mp z with z | z
    · exact n z
    · rw [z, np] at h; cases h
  · show (α.own ++ [p])[k]? = _
    rw [List.getElem?_append_left (List.getElem?_eq_some_iff.mp h).1]
    exact h
theorem stor_push (S : Stor C H α μ) {p : Addr} {xs : List V} {ds : List D} (np : H p = none) (r : RpAll C.K H (Own α μ) xs ds) : Stor C (upd H p (.lst xs)) (α.push p) (μ ++ [some (.lst ds)]) := by
  have st := step_push (xs := xs) (ds := ds) S np
  have fresh : ∀ a ∈ α.own ++ α.hid, a ≠ p := fun a ha e => by
    obtain ⟨o, q, _⟩ := S.there a ha
    rw [e, np] at q; cases q
  refine ⟨by simp [Al.push, S.len], ?_, fun a h => ?_, fun k c h => ?_, S.tabs.ext (same_upd np)⟩
  · show ((α.own ++ [p]) ++ α.hid).Nodup
    have h := S.nd
    rw [List.append_assoc, List.singleton_append, List.Perm.nodup_iff List.perm_middle]
    exact List.nodup_cons.mpr ⟨fun z => fresh p z rfl, h⟩
  · have h : a ∈ (α.own ++ [p]) ++ α.hid := h
    by_cases e : a = p
    · subst e
      exact ⟨_, upd_same, fun _ z => by cases z⟩
    · have hm : a ∈ α.own ++ α.hid := by
        rcases List.mem_append.mp h with h | h
        · rcases List.mem_append.mp h with h | h
          · exact List.mem_append_left _ h
          · exact absurd (by simpa using h) e
        · exact List.mem_append_right _ h
      obtain ⟨o, q, n⟩ := S.there a hm
      exact ⟨o, same_upd np _ _ q, n⟩
  · by_cases hk : k < μ.length
    · rw [List.getElem?_append_left hk] at h
      obtain ⟨a, h1, h2⟩ := S.cell k c h
      refine ⟨a, st.pre _ _ h1, ?_⟩
      cases c with
      | lst l => obtain ⟨ys, e1, e2⟩ := h2; exact ⟨ys, same_upd np _ _ e1, e2.ext st.ext⟩
      | ins c fs => obtain ⟨A, dx, gs, e1, e2, e3, e4⟩ := h2; exact ⟨A, dx, gs, e1, same_upd np _ _ e2, e3, e4.ext st.ext⟩
    · rw [List.getElem?_append_right (by omega)] at h
      by_cases hz : k - μ.length = 0
      · rw [hz] at h
        cases h
        refine ⟨p, ?_, xs, upd_same, r.ext st.ext⟩
        show (α.own ++ [p])[k]? = _
        rw [List.getElem?_append_right (by rw [S.len]; omega), S.len, hz]
        rfl
      · rw [List.getElem?_eq_none (by simp; omega)] at h
        cases h
end

section
variable {X : Cx} {T : List (Addr × Str)} {E : XK} {j : Nat} {pos : Pos} {a b c : Expr} {f g h : EF} {es : List Expr} {r : AF}
theorem de_lstM (hr : DA X T E es r) (hl : es.length ≤ 1000 := by decide) : DE X T E (.List es pos) (eLstM r) :=
  pe_imp (pe_lst hr.pa) fun σ H Q ⟨ρ, α, μ, S, sl, q⟩ => hr.read (C := CvX X T) S sl q fun vs ws H1 α1 μ1 st S1 sl1 rs ln q1 => by
    refine ⟨by rw [rs.length, ln]; exact Nat.le_trans hl (by decide), fun p np => ?_⟩
    split at q1
    · rename_i ds e1
      have rr := rs.asDs e1
      exact q1 _ _ _ (step_push S1 np) (stor_push S1 np rr) ⟨p, by show (α1.own ++ [p])[_]? = _; rw [← S1.len]; simp, rfl⟩
    · exact (show False from q1).elim
/-! ### subscripts, slices -/
theorem de_ix (ha : DE X T E a f) (hb : DE X T E b g) (hs : PlainIx b := by exact fun _ _ => rfl) : DE X T E (.Subscript a b pos) (eOp dIx f g) :=
  pe_imp (pe_ix (ix_list.or ix_tup) ha hb hs) fun σ H Q q => op_rd os_ix q
structure DP (X : Cx) (T : List (Addr × Str)) (E : XK) (e : Option Expr) (o : Option EF) : Prop where
  po : PO X e (fun σ H Q => ∃ ρ α μ, Stor (CvX X T) H α μ ∧ Sl (CvX X T) H α μ σ ρ ∧ (match ePart o ρ μ with
    | .ok i μ1 => ∀ H1 α1, Step H α μ H1 α1 μ1 → Stor (CvX X T) H1 α1 μ1 → Q i H1
    | .er x μ1 => ∀ cls d H1 α1, Step H α μ H1 α1 μ1 → Stor (CvX X T) H1 α1 μ1 → RpX (CvX X T) H1 cls d x → E cls d H1
    | .no => False))
theorem po_imp {e : Option Expr} {t t' : TO} (h : PO X e t) (i : ∀ σ H Q, t' σ H Q → t σ H Q) : PO X e t' := ⟨fun pins s σ H Q I q => h.run pins s σ H Q I (i _ _ _ q)⟩
theorem dp_none : DP X T E none none := ⟨po_imp po_none fun σ H Q ⟨ρ, α, μ, S, sl, q⟩ => q H α (.refl _ _ _) S⟩
theorem dp_some (ha : DE X T E a f) : DP X T E (some a) (some f) := ⟨po_imp (po_some ha) fun σ H Q ⟨ρ, α, μ, S, sl, q⟩ => by
  refine ⟨ρ, α, μ, S, sl, ?_⟩
  have e : ePart (some f) ρ μ = (f ρ μ).bind fun w μ1 => match w with | .d (.int i) => .ok (some i) μ1 | _ => .no := rfl
  rw [e] at q
  cases e1 : f ρ μ with
  | ok w μ1 =>
    rw [e1, R.bind_ok] at q
    intro v H1 α1 st S1 rv
    cases w with
    | d d =>
      cases d with
      | int i => cases rv; exact ⟨i, rfl, q H1 α1 st S1⟩
      | none => exact q.elim
      | bool i => exact q.elim
      | str i => exact q.elim
      | list i => exact q.elim
      | tuple i => exact q.elim
      | dict i => exact q.elim
    | m k => exact q.elim
    | f k => exact q.elim
    | x k => exact q.elim
    | e _ _ => exact q.elim
    | es _ => exact q.elim
  | er x μ1 => rw [e1] at q; exact q
  | no => rw [e1] at q; exact q⟩
theorem DP.read {e : Option Expr} {o : Option EF} (hp : DP X T E e o) {Q : VK} {H : Hp} {α : Al} {μ : Sto} {σ : L2.St} {ρ : Mi.Env} {k : Option Int → Sto → R W} {Q' : Option Int → Hp → Prop} {t : TO} (S : Stor (CvX X T) H α μ) (sl : Sl (CvX X T) H α μ σ ρ) (q : PQ (CvX X T) E Q H α μ ((ePart o ρ μ).bind k))
    (cont : ∀ i H1 α1 μ1, Step H α μ H1 α1 μ1 → Stor (CvX X T) H1 α1 μ1 → Sl (CvX X T) H1 α1 μ1 σ ρ → PQ (CvX X T) E Q H1 α1 μ1 (k i μ1) → Q' i H1) :
    ∃ ρ α μ, Stor (CvX X T) H α μ ∧ Sl (CvX X T) H α μ σ ρ ∧ (match ePart o ρ μ with
    | .ok i μ1 => ∀ H1 α1, Step H α μ H1 α1 μ1 → Stor (CvX X T) H1 α1 μ1 → Q' i H1
    | .er x μ1 => ∀ cls d H1 α1, Step H α μ H1 α1 μ1 → Stor (CvX X T) H1 α1 μ1 → RpX (CvX X T) H1 cls d x → E cls d H1
    | .no => False) := by
  refine ⟨ρ, α, μ, S, sl, ?_⟩
  cases e : ePart o ρ μ with
  | ok i μ1 =>
    rw [e] at q
    exact fun H1 α1 st S1 => cont i H1 α1 μ1 st S1 (sl.step st) (PQ.step (r := k i μ1) q st)
  | er x μ1 => rw [e] at q; exact q
  | no => rw [e] at q; exact q
theorem de_sl {lo hi : Option Expr} {p2 : Pos} {o u : Option EF} (ha : DE X T E a f) (hl : DP X T E lo o) (hh : DP X T E hi u) : DE X T E (.Subscript a (.Slice lo hi none p2) pos) (eSl dCut f o u) :=
  pe_imp (pe_slice ((sl_list.or sl_tupA).or sl_str) ha hl.po hh.po) fun σ H Q ⟨ρ, α, μ, S, sl, q⟩ => tD_bind S sl q fun v w H1 α1 μ1 st1 S1 sl1 r1 q1 => by
    refine hl.read (t := fun _ _ _ => True) S1 sl1 q1 fun i H2 α2 μ2 st2 S2 sl2 q2 => ?_
    refine hh.read (t := fun _ _ _ => True) S2 sl2 q2 fun k H3 α3 μ3 st3 S3 sl3 q3 => ?_
    obtain ⟨z, e, q4⟩ := PQ.ofO q3
    cases e1 : view μ3 w with
    | none => rw [e1] at e; cases e
    | some d =>
      simp only [e1, Option.bind_some] at e
      cases e2 : dCut d i k with
      | none => rw [e2] at e; cases e
      | some d2 =>
        rw [e2] at e
        cases e
        exact os_cut S3 (((r1.step st2).step st3).view S3 e1) e2 fun v H' sm rv => q4 v H' α3 (Same.step S3 sm) (S3.same sm) rv
/-- a module's tuple of texts -/
def GTup (K : PySem.W.Frag) (mg : Str → Option Value) (x : Str) (ds : List D) : Prop := ∃ a xs, mg x = some (.ref a) ∧ ∀ H M, SqT K H a xs ∧ RpAll K H M xs ds
theorem de_gtup {x : Str} {ds : List D} (h : GTup X.K X.mg x ds) (hg : Gl X x := by rfl) (hd : (x == ("__debug__" : Str)) = false := by decide) : DE X T E (.Name x pos) (eC (.tuple ds)) := by
  obtain ⟨A, xs, hm, hr⟩ := h
  exact pe_imp (pe_glob hg hm (v := .ref A) rfl hd) fun σ H Q ⟨ρ, α, μ, S, sl, q⟩ => PQ.ok (w := .d (.tuple ds)) S (.tup (hr H (Own α μ)).1 (hr H (Own α μ)).2) q
/-- xs[::-1] -/
theorem de_rev {j1 : Nat} {p1 p2 p3 : Pos} (ha : DE X T E a f) : DE X T E (.Subscript a (.Slice none none (some (.UnaryOp .USub (.Constant (.int 1) j1 p1) p2)) p3) pos) (eUn dRevL f) :=
  pe_imp (pe_revL ha) fun σ H Q ⟨ρ, α, μ, S, sl, q⟩ => tD_bind S sl q fun v w H1 α1 μ1 st1 S1 sl1 r1 q1 => by
    obtain ⟨z, e, q2⟩ := PQ.ofO q1
    cases e1 : view μ1 w with
    | none => rw [e1] at e; cases e
    | some d =>
      simp only [e1, Option.bind_some] at e
      cases d with
      | list l =>
        cases e
        obtain ⟨p4, xs, rfl, h4, r4⟩ := (r1.view S1 e1).list
        refine ⟨p4, xs, rfl, .inl h4, fun p np => ?_⟩
        obtain ⟨sm, rp⟩ := rp_newL S1 np r4.reverse
        exact q2 _ _ _ (Same.step S1 sm) (S1.same sm) rp
      | none => cases e
      | bool b => cases e
      | int b => cases e
      | str b => cases e
      | tuple b => cases e
      | dict b => cases e
/-! ### builtins -/
def BlS (C : Cv) (h : List D → Option D) (r : List V → Hp → VK → Prop) : Prop := ∀ H α μ xs ds z Q, Stor C H α μ → RpTs C H (Own α μ) xs ds → h ds = some z → (∀ v H', Same H H' → Rp C.K H' (Own α μ) v z → Q v H') → r xs H Q
theorem blt_rd {hh : List D → Option D} {rr : List V → Hp → VK → Prop} (hs : BlS (CvX X T) hh rr) (hr : DA X T E es r) {σ : L2.St} {H : Hp} {Q : VK} (q : tD (CvX X T) E (eBlt hh r) σ H Q) : tDs (CvX X T) E r σ H fun vs H1 => rr vs H1 Q := by
  obtain ⟨ρ, α, μ, S, sl, q⟩ := q
  refine hr.read (C := CvX X T) S sl q fun vs ws H1 α1 μ1 st S1 sl1 rs ln q1 => ?_
  obtain ⟨z, e, q2⟩ := PQ.ofO q1
  cases e1 : Mi.views μ1 ws with
  | none => rw [e1] at e; cases e
  | some ds =>
    simp only [e1, Option.bind_some] at e
    cases e2 : hh ds with
    | none => rw [e2] at e; cases e
    | some d =>
      rw [e2] at e
      cases e
      exact hs H1 α1 μ1 vs ds d Q S1 (rs.views S1 e1) e2 fun v H' sm rv => q2 v H' α1 (Same.step S1 sm) (S1.same sm) rv
theorem de_blt {x : Str} {id : String} {p : Pos} {hh : List D → Option D} {rr : List V → Hp → VK → Prop} (hc : CallR X (.builtin id) rr) (hs : BlS (CvX X T) hh rr) (hm : X.mg x = none) (hv : bootBuiltins x = some (.builtin id)) (hr : DA X T E (a :: es) r) (hg : Gl X x := by rfl) (hn : x ≠ "__name__" := by decide) (hdb : (x == ("__debug__" : Str)) = false := by decide)
    (he : starEach (a :: es) X.env = (false, eval a X.env) :: starEach es X.env := by rfl) (hpl : (backTo pos (starEach es X.env)).any (·.1) = false := by rfl) : DE X T E (.Call (.Name x p) (a :: es) [] pos) (eBlt hh r) :=
  pe_imp (pe_callB hc hg hm hv hr.pa hn hdb he hpl) fun σ H Q q => blt_rd hs hr q
theorem de_bty {x : Str} {id : String} {p : Pos} {hh : List D → Option D} {rr : List V → Hp → VK → Prop} (hc : CallR X (.type id) rr) (hs : BlS (CvX X T) hh rr) (hm : X.mg x = none) (hv : bootBuiltins x = some (.type id)) (hr : DA X T E (a :: es) r) (hg : Gl X x := by rfl) (hn : x ≠ "__name__" := by decide) (hdb : (x == ("__debug__" : Str)) = false := by decide)
    (he : starEach (a :: es) X.env = (false, eval a X.env) :: starEach es X.env := by rfl) (hpl : (backTo pos (starEach es X.env)).any (·.1) = false := by rfl) : DE X T E (.Call (.Name x p) (a :: es) [] pos) (eBlt hh r) :=
  pe_imp (pe_callTy hc hg hm hv hr.pa hn hdb he hpl) fun σ H Q q => blt_rd hs hr q
end
/-! ### single builtins -/
section
variable {C : Cv}
theorem RpTs.one {H : Hp} {M : Addr → Prop} {xs : List V} {d : D} (h : RpTs C H M xs [d]) : ∃ x, xs = [x] ∧ RpT C.K H M x d := by
  cases h with
  | cons r t => cases t; exact ⟨_, rfl, r⟩
theorem RpTs.two {H : Hp} {M : Addr → Prop} {xs : List V} {d e : D} (h : RpTs C H M xs [d, e]) : ∃ x y, xs = [x, y] ∧ RpT C.K H M x d ∧ RpT C.K H M y e := by
  cases h with
  | cons r t => cases t with
    | cons r2 t => cases t; exact ⟨_, _, rfl, r, r2⟩
theorem bs_len : BlS C bLen (fun xs H Q => ∃ x n, xs = [x] ∧ LenV C.K x H n ∧ Q (.int n) H) := by
  intro H α μ xs ds z Q S rs e q
  unfold bLen at e
  split at e
  · cases e
    obtain ⟨x, rfl, r0⟩ := rs.one
    obtain ⟨p1, ys, rfl, h1, r1⟩ := r0.list
    exact ⟨_, ys.length, rfl, .inl ⟨ys, .inl h1, rfl⟩, by rw [r1.length]; exact q _ H (.refl H) (.int _)⟩
  · cases e
    obtain ⟨x, rfl, r0⟩ := rs.one
    obtain ⟨p1, ys, rfl, h1, r1⟩ := r0.tuple
    exact ⟨_, ys.length, rfl, .inr ⟨ys, h1, rfl⟩, by rw [r1.length]; exact q _ H (.refl H) (.int _)⟩
  · split at e
    · rename_i hl
      cases e
      obtain ⟨x, rfl, r0⟩ := rs.one
      have hh := r0.str
      subst hh
      exact ⟨_, _, rfl, ⟨lim_line hl, rfl⟩, q _ H (.refl H) (.int _)⟩
    · cases e
  · cases e
theorem bs_max2 : BlS C bMax2 (fun xs H Q => ∃ i j, xs = [.int i, .int j] ∧ Q (.int (if j > i then j else i)) H) := by
  intro H α μ xs ds z Q S rs e q
  unfold bMax2 at e
  split at e
  · cases e
    obtain ⟨x, y, rfl, r1, r2⟩ := rs.two
    exact ⟨_, _, by rw [r1.int, r2.int], q _ H (.refl H) (.int _)⟩
  · cases e
theorem bs_min2 : BlS C bMin2 (fun xs H Q => ∃ i j, xs = [.int i, .int j] ∧ Q (.int (if j < i then j else i)) H) := by
  intro H α μ xs ds z Q S rs e q
  unfold bMin2 at e
  split at e
  · cases e
    obtain ⟨x, y, rfl, r1, r2⟩ := rs.two
    exact ⟨_, _, by rw [r1.int, r2.int], q _ H (.refl H) (.int _)⟩
  · cases e
theorem bs_int : BlS C bInt (fun xs H Q => ((∃ i, xs = [.int i] ∧ Q (.int i) H) ∨ ∃ k, xs = [.bl k] ∧ Q (.int (if k then 1 else 0)) H) ∨ ∃ a n, xs = [.str a] ∧ PySem.intText? a = some n ∧ a.length ≤ 640 ∧ Q (.int n) H) := by
  intro H α μ xs ds z Q S rs e q
  unfold bInt at e
  split at e
  · cases e
    obtain ⟨x, rfl, r1⟩ := rs.one
    exact .inl (.inl ⟨_, by rw [r1.int], q _ H (.refl H) (.int _)⟩)
  · rename_i a
    obtain ⟨x, rfl, r1⟩ := rs.one
    cases e1 : PySem.intText? a with
    | none => rw [e1] at e; cases e
    | some n =>
      rw [e1] at e
      simp only [Option.bind_some] at e
      split at e
      · rename_i hl
        cases e
        exact .inr ⟨a, n, by rw [r1.str], e1, hl, q _ H (.refl H) (.int _)⟩
      · cases e
  · cases e
    obtain ⟨x, rfl, r1⟩ := rs.one
    exact .inl (.inr ⟨_, by rw [r1.bl], q _ H (.refl H) (.int _)⟩)
  · cases e
theorem bs_str : BlS C bStr (fun xs H Q => (∃ i, xs = [.int i] ∧ i.natAbs.log2 < 1920 ∧ Q (.str (toString i)) H) ∨ ((∃ a, xs = [.str a] ∧ Q (.str a) H) ∨ ∃ b, xs = [.bl b] ∧ Q (.str (if b then "True" else "False")) H)) := by
  intro H α μ xs ds z Q S rs e q
  unfold bStr at e
  split at e
  · split at e
    · rename_i hl
      cases e
      obtain ⟨x, rfl, r1⟩ := rs.one
      exact .inl ⟨_, by rw [r1.int], hl, q _ H (.refl H) (.str _)⟩
    · cases e
  · cases e
    obtain ⟨x, rfl, r1⟩ := rs.one
    exact .inr (.inl ⟨_, by rw [r1.str], q _ H (.refl H) (.str _)⟩)
  · cases e
    obtain ⟨x, rfl, r1⟩ := rs.one
    exact .inr (.inr ⟨_, by rw [r1.bl], q _ H (.refl H) (.str _)⟩)
  · cases e
theorem call_strB {X : Cx} : CallR X (.type "str") (fun xs H Q => ∃ b, xs = [.bl b] ∧ Q (.str (if b then "True" else "False")) H) := by
  intro pins s σ H xs us Q I r h
  obtain ⟨b, rfl, q⟩ := h
  cases r with
  | cons r1 rr =>
    cases rr
    cases r1
    exact PySem.P.str_of_bool ⟨.str _, H, I.tok _, ⟨_, rfl⟩, q⟩
theorem bs_abs : BlS C bAbs (fun xs H Q => ∃ i, xs = [.int i] ∧ Q (.int (if i < 0 then -i else i)) H) := by
  intro H α μ xs ds z Q S rs e q
  unfold bAbs at e
  split at e
  · cases e
    obtain ⟨x, rfl, r1⟩ := rs.one
    exact ⟨_, by rw [r1.int], q _ H (.refl H) (.int _)⟩
  · cases e
theorem RpAll.bools {K : PySem.W.Frag} {H : Hp} {M : Addr → Prop} : ∀ {vs : List V} {ds : List D} {k : Bool}, RpAll K H M vs ds → Mi.allB ds = some k → ∃ bs : List Bool, vs = bs.map V.bl ∧ bs.all id = k
  | _, _, _, .nil, e => by cases e; exact ⟨[], rfl, rfl⟩
  | _, .bool b :: ds, k, .cons r t, e => by
    unfold Mi.allB at e
    cases e1 : Mi.allB ds with
    | none => rw [e1] at e; cases e
    | some k' =>
      rw [e1] at e
      cases e
      obtain ⟨bs, rfl, h⟩ := RpAll.bools t e1
      cases r
      exact ⟨b :: bs, rfl, by rw [List.all_cons, h]; rfl⟩
  | _, .none :: ds, _, .cons r t, e => by cases e
  | _, .int _ :: ds, _, .cons r t, e => by cases e
  | _, .str _ :: ds, _, .cons r t, e => by cases e
  | _, .list _ :: ds, _, .cons r t, e => by cases e
  | _, .tuple _ :: ds, _, .cons r t, e => by cases e
  | _, .dict _ :: ds, _, .cons r t, e => by cases e
theorem bs_all : BlS C bAll (rAll C.K) := by
  intro H α μ xs ds z Q S rs e q
  unfold bAll at e
  split at e
  · rename_i l
    cases e1 : Mi.allB l with
    | none => rw [e1] at e; cases e
    | some k =>
      rw [e1] at e
      cases e
      obtain ⟨x, rfl, r0⟩ := rs.one
      obtain ⟨p1, ys, rfl, h1, r1⟩ := r0.list
      obtain ⟨bs, rfl, h⟩ := r1.bools e1
      exact ⟨p1, bs, rfl, .inl h1, by rw [h]; exact q _ H (.refl H) (.bl _)⟩
  · cases e
theorem RpAll.intsAll {K : PySem.W.Frag} {H : Hp} {M : Addr → Prop} : ∀ {vs : List V} {ds : List D} {ns : List Int}, RpAll K H M vs ds → intsOf ds = some ns → vs = ns.map V.int
  | _, _, _, .nil, e => by cases e; rfl
  | _, .int b :: ds, k, .cons r t, e => by
    unfold intsOf at e
    cases e1 : intsOf ds with
    | none => rw [e1] at e; cases e
    | some k' =>
      rw [e1] at e
      cases e
      cases r
      rw [RpAll.intsAll t e1]
      rfl
  | _, .none :: ds, _, .cons r t, e => by cases e
  | _, .bool _ :: ds, _, .cons r t, e => by cases e
  | _, .str _ :: ds, _, .cons r t, e => by cases e
  | _, .list _ :: ds, _, .cons r t, e => by cases e
  | _, .tuple _ :: ds, _, .cons r t, e => by cases e
  | _, .dict _ :: ds, _, .cons r t, e => by cases e
theorem insI_perm (x : Int) : ∀ l : List Int, (insI x l).Perm (x :: l)
  | [] => .refl _
  | y :: r => by
    unfold insI
    split
    · exact .refl _
    · exact ((insI_perm x r).cons y).trans (.swap x y r)
theorem isort_perm : ∀ l : List Int, (isort l).Perm l
  | [] => .refl _
  | x :: r => (insI_perm x (isort r)).trans ((isort_perm r).cons x)
theorem insI_sorted (x : Int) : ∀ l : List Int, l.Pairwise (· ≤ ·) → (insI x l).Pairwise (· ≤ ·)
  | [], _ => List.pairwise_singleton _ _
  | y :: r, h => by
    unfold insI
    split
    · rename_i hx
      refine List.pairwise_cons.mpr ⟨fun z hz => ?_, h⟩
      rcases List.mem_cons.mp hz with e | e
      · rw [e]; exact hx
      · exact Int.le_trans hx ((List.pairwise_cons.mp h).1 z e)
    · rename_i hx
      refine List.pairwise_cons.mpr ⟨fun z hz => ?_, insI_sorted x r (List.pairwise_cons.mp h).2⟩
      rcases List.mem_cons.mp ((insI_perm x r).mem_iff.mp hz) with e | e
      · rw [e]; omega
      · exact (List.pairwise_cons.mp h).1 z e
theorem isort_sorted : ∀ l : List Int, (isort l).Pairwise (· ≤ ·)
  | [] => .nil
  | x :: r => insI_sorted x _ (isort_sorted r)
theorem sorted_uniq : ∀ {a b : List Int}, a.Perm b → a.Pairwise (· ≤ ·) → b.Pairwise (· ≤ ·) → a = b
  | [], b, p, _, _ => (List.nil_perm.mp p).symm
  | x :: a, [], p, _, _ => absurd (List.perm_nil.mp p) (List.cons_ne_nil _ _)
  | x :: a, y :: b, p, ha, hb => by
    have e : x = y := by
      have h1 : x ∈ y :: b := p.mem_iff.mp List.mem_cons_self
      have h2 : y ∈ x :: a := p.mem_iff.mpr List.mem_cons_self
      rcases List.mem_cons.mp h1 with h1 | h1
      · exact h1
      · rcases List.mem_cons.mp h2 with h2 | h2
        · exact h2.symm
        · exact Int.le_antisymm ((List.pairwise_cons.mp ha).1 y h2) ((List.pairwise_cons.mp hb).1 x h1)
    subst e
    rw [sorted_uniq (List.perm_cons x |>.mp p) (List.pairwise_cons.mp ha).2 (List.pairwise_cons.mp hb).2]
theorem rpAll_ints {K : PySem.W.Frag} {H : Hp} {M : Addr → Prop} : ∀ ns : List Int, RpAll K H M (ns.map V.int) (ns.map PyData.int)
  | [] => .nil
  | n :: r => .cons (.int n) (rpAll_ints r)
theorem minI_mem : ∀ (r : List Int) (a : Int), minI a r ∈ a :: r
  | [], a => List.mem_cons_self
  | b :: r, a => by
    have h := minI_mem r (if b < a then b else a)
    unfold minI
    rcases List.mem_cons.mp h with h | h
    · rw [h]
      split
      · simp
      · simp
    · simp [h]
theorem minI_le : ∀ (r : List Int) (a : Int), ∀ y ∈ a :: r, minI a r ≤ y
  | [], a, y, h => by rw [List.mem_singleton.mp h]; exact Int.le_refl _
  | b :: r, a, y, h => by
    have ih := minI_le r (if b < a then b else a)
    unfold minI
    have h0 := ih _ List.mem_cons_self
    have h1 : (if b < a then b else a) ≤ a ∧ (if b < a then b else a) ≤ b := by split <;> omega
    rcases List.mem_cons.mp h with rfl | h
    · exact Int.le_trans h0 h1.1
    · rcases List.mem_cons.mp h with rfl | h
      · exact Int.le_trans h0 h1.2
      · exact ih y (List.mem_cons_of_mem _ h)
theorem bs_min1 : BlS C bMin1 (rMin C.K) := by
  intro H α μ xs ds z Q S rs e q
  unfold bMin1 at e
  split at e
  · rename_i l
    cases e1 : intsOf l with
    | none => rw [e1] at e; cases e
    | some ns =>
      rw [e1] at e
      cases ns with
      | nil => cases e
      | cons a r =>
        cases e
        obtain ⟨x, rfl, r0⟩ := rs.one
        obtain ⟨p1, ys, rfl, h1, r1⟩ := r0.list
        have hy := r1.intsAll e1
        subst hy
        refine ⟨p1, a :: r, rfl, .inl h1, by simp, fun m hm hle => ?_⟩
        have e2 : m = minI a r := Int.le_antisymm (hle _ (minI_mem r a)) (minI_le r a m hm)
        rw [e2]
        exact q _ H (.refl H) (.int _)
  · cases e
theorem bs_sorted : BlS C bSorted (rSortedI C.K) := by
  intro H α μ xs ds z Q S rs e q
  unfold bSorted at e
  split at e
  · rename_i l
    cases e1 : intsOf l with
    | none => rw [e1] at e; cases e
    | some ns =>
      rw [e1] at e
      cases e
      obtain ⟨x, rfl, r0⟩ := rs.one
      obtain ⟨p1, ys, rfl, h1, r1⟩ := r0.list
      have hy := r1.intsAll e1
      subst hy
      refine ⟨p1, ns, rfl, .inl h1, fun ns' p hp hs np => ?_⟩
      have he : ns' = isort ns := sorted_uniq (hp.trans (isort_perm ns).symm) hs (isort_sorted ns)
      subst he
      obtain ⟨sm, rp⟩ := rp_newL S np (rpAll_ints (isort ns))
      exact q _ _ sm rp
  · cases e
theorem RpAll.ints {K : PySem.W.Frag} {H : Hp} {M : Addr → Prop} : ∀ {vs : List V} {ds : List D} {k : Int}, RpAll K H M vs ds → sumI ds = some k → ∃ ns : List Int, vs = ns.map V.int ∧ ns.sum = k
  | _, _, _, .nil, e => by cases e; exact ⟨[], rfl, rfl⟩
  | _, .int b :: ds, k, .cons r t, e => by
    unfold sumI at e
    cases e1 : sumI ds with
    | none => rw [e1] at e; cases e
    | some k' =>
      rw [e1] at e
      cases e
      obtain ⟨bs, rfl, h⟩ := RpAll.ints t e1
      cases r
      exact ⟨b :: bs, rfl, by rw [List.sum_cons, h]⟩
  | _, .none :: ds, _, .cons r t, e => by cases e
  | _, .bool _ :: ds, _, .cons r t, e => by cases e
  | _, .str _ :: ds, _, .cons r t, e => by cases e
  | _, .list _ :: ds, _, .cons r t, e => by cases e
  | _, .tuple _ :: ds, _, .cons r t, e => by cases e
  | _, .dict _ :: ds, _, .cons r t, e => by cases e
theorem bs_sum : BlS C bSum (rSum C.K) := by
  intro H α μ xs ds z Q S rs e q
  unfold bSum at e
  split at e
  · rename_i l
    cases e1 : sumI l with
    | none => rw [e1] at e; cases e
    | some k =>
      rw [e1] at e
      cases e
      obtain ⟨x, rfl, r0⟩ := rs.one
      obtain ⟨p1, ys, rfl, h1, r1⟩ := r0.list
      obtain ⟨bs, rfl, h⟩ := r1.ints e1
      exact ⟨p1, bs, rfl, .inl h1, by rw [h]; exact q _ H (.refl H) (.int _)⟩
  · cases e
theorem bs_tup : BlS C bTup (fun xs H Q => ∃ p ys, xs = [.ref p] ∧ ((SqL C.K H p ys ∧ ∀ l, H l = none → Q (.ref l) (upd H l (.tup ys))) ∨ (SqT C.K H p ys ∧ Q (.ref p) H))) := by
  intro H α μ xs ds z Q S rs e q
  unfold bTup at e
  split at e
  · cases e
    obtain ⟨x, rfl, r0⟩ := rs.one
    obtain ⟨p1, ys, rfl, h1, r1⟩ := r0.list
    refine ⟨p1, ys, rfl, .inl ⟨.inl h1, fun p np => ?_⟩⟩
    obtain ⟨sm, rp⟩ := rp_newT np r1
    exact q _ _ sm rp
  · cases e
    obtain ⟨x, rfl, r0⟩ := rs.one
    obtain ⟨p1, ys, rfl, h1, r1⟩ := r0.tuple
    exact ⟨p1, ys, rfl, .inr ⟨h1, q _ H (.refl H) (.tup h1 r1)⟩⟩
  · cases e
theorem bs_lst : BlS C bLst (fun xs H Q => ∃ p ys, xs = [.ref p] ∧ (SqL C.K H p ys ∨ SqT C.K H p ys) ∧ ∀ l, H l = none → Q (.ref l) (upd H l (.lst ys))) := by
  intro H α μ xs ds z Q S rs e q
  unfold bLst at e
  split at e
  · cases e
    obtain ⟨x, rfl, r0⟩ := rs.one
    obtain ⟨p1, ys, rfl, h1, r1⟩ := r0.list
    refine ⟨p1, ys, rfl, .inl (.inl h1), fun p np => ?_⟩
    obtain ⟨sm, rp⟩ := rp_newL S np r1
    exact q _ _ sm rp
  · cases e
    obtain ⟨x, rfl, r0⟩ := rs.one
    obtain ⟨p1, ys, rfl, h1, r1⟩ := r0.tuple
    refine ⟨p1, ys, rfl, .inr h1, fun p np => ?_⟩
    obtain ⟨sm, rp⟩ := rp_newL S np r1
    exact q _ _ sm rp
  · cases e
/-! ### isinstance -/
def tyN : Ty → String
  | .int => "int"
  | .bool => "bool"
  | .str => "str"
  | .tuple => "tuple"
  | .list => "list"
def dTy : D → String
  | .none => "NoneType"
  | .bool _ => "bool"
  | .int _ => "int"
  | .str _ => "str"
  | .list _ => "list"
  | .tuple _ => "tuple"
  | .dict _ => "dict"
theorem RpT.ty {H : Hp} {M : Addr → Prop} {v : V} {d : D} (h : RpT C.K H M v d) : TyX C.K H v (.type (dTy d)) := by
  cases d with
  | none => rw [h.none]; exact .base .non
  | bool b => rw [h.bl]; exact .base (.bl b)
  | int b => rw [h.int]; exact .base (.int b)
  | str b => rw [h.str]; exact .base (.str b)
  | list l =>
    obtain ⟨p1, ys, rfl, h1, r1⟩ := h.list
    rcases h1 with h1 | ⟨o, h1⟩
    · exact .base (.lst h1)
    · exact .base (.frz h1)
  | tuple l =>
    obtain ⟨p1, ys, rfl, h1, r1⟩ := h.tuple
    rcases h1 with (h1 | ⟨o, h1⟩) | ⟨o, its, n, h1, h2, _⟩
    · exact .base (.tup h1)
    · exact .fTuple h1
    · exact .kTuple h1 h2
  | dict l => exact h.nodict.elim
theorem kit_is (t : Ty) (d : D) : kitB (dTy d) (tyN t) = some (isTy t d) := by
  cases t <;> cases d <;> (simp only [dTy, tyN, isTy]; decide +kernel)
end
section
variable {X : Cx} {T : List (Addr × Str)} {E : XK} {j : Nat} {pos : Pos} {a b c : Expr} {f g h : EF} {es : List Expr} {r : AF}
theorem de_isi (t : Ty) {x y : Str} {p p2 : Pos} (hm : X.mg x = none) (hv : bootBuiltins x = some (.builtin "isinstance")) (hm2 : X.mg y = none) (hv2 : bootBuiltins y = some (.type (tyN t))) (ha : DE X T E a f) (hg : Gl X x := by rfl) (hg2 : Gl X y := by rfl) (hn : x ≠ "__name__" := by decide) (hn2 : y ≠ "__name__" := by decide) (hdb : (x == ("__debug__" : Str)) = false := by decide) (hdb2 : (y == ("__debug__" : Str)) = false := by decide)
    (he : starEach (a :: [.Name y p2]) X.env = (false, eval a X.env) :: starEach [.Name y p2] X.env := by rfl) (hpl : (backTo pos (starEach [.Name y p2] X.env)).any (·.1) = false := by rfl) (he2 : starEach [.Name y p2] X.env = (false, eval (.Name y p2) X.env) :: starEach [] X.env := by rfl) :
    DE X T E (.Call (.Name x p) [a, .Name y p2] [] pos) (eIsi t f) :=
  pe_imp (pe_callB call_isi hg hm hv (pa_cons ha (pa_cons (pe_bltn hg2 hm2 hv2 (v := .ty (tyN t)) rfl hn2 hdb2) pa_nil he2) he) hn hdb he hpl) fun σ H Q ⟨ρ, α, μ, S, sl, q⟩ =>
    tD_bind S sl q fun v w H1 α1 μ1 st S1 sl1 rv q1 => by
      obtain ⟨z, e, q2⟩ := PQ.ofO q1
      cases e1 : Mi.view μ1 w with
      | none => rw [e1] at e; cases e
      | some d =>
        rw [e1] at e
        cases e
        exact ⟨v, .ty (tyN t), .type (dTy d), .type (tyN t), isTy t d, rfl, .ty _, (rv.view S1 e1).ty, kit_ty (kit_is t d), PQ.bl S1 q2⟩
/-! ### defs -/
/-- a def's promise: it hands back what the mirror does -/
def spD (C : Cv) (g : GF) : Sp := fun vs H Q E => ∃ ws α μ, Stor C H α μ ∧ RpWs C H α μ vs ws ∧ PQ C E Q H α μ (g ws μ)
structure HasFn (P : Program) (w : World) (K : PySem.W.Frag) (mg : Str → Option Value) (base : Heap) (T : List (Addr × Str)) (k : Nat) (x : Str) (g : GF) : Prop where
  ex : ∃ f fd ps ds dvs dd g0, mg x = some (.ref f) ∧ PySem.W.keepIn K (.ref f) = true ∧ Binds K fd ps ds ∧ Vals dvs ds ∧ (∀ H M, RpAll K H M dvs dd) ∧ (∀ ws μ, g ws μ = g0 (ws ++ dd.map W.d) μ) ∧
    FnOk P w K mg base (L2N.CX P w) k f fd ps (spD ⟨K, mg, T⟩ g0)
theorem HasFn.mono {P : Program} {w : World} {K : PySem.W.Frag} {mg : Str → Option Value} {base : Heap} {T : List (Addr × Str)} {k k' : Nat} {x : Str} {g : GF} (h : HasFn P w K mg base T k x g) (hk : k ≤ k') : HasFn P w K mg base T k' x g := by
  obtain ⟨f, fd, ps, ds, dvs, dd, g0, h1, h2, h3, h4, h5, h6, h7⟩ := h.ex
  exact ⟨f, fd, ps, ds, dvs, dd, g0, h1, h2, h3, h4, h5, h6, h7.mono hk⟩
theorem RpAll.ws {C : Cv} {H : Hp} {α : Al} {μ : Sto} : ∀ {vs : List V} {ds : List PyData}, RpAll C.K H (Own α μ) vs ds → RpWs C H α μ vs (ds.map W.d)
  | _, _, .nil => .nil
  | _, _, .cons r t => .cons r (RpAll.ws t)
theorem RpWs.append {C : Cv} {H : Hp} {α : Al} {μ : Sto} : ∀ {vs us : List V} {ws zs : List W}, RpWs C H α μ vs ws → RpWs C H α μ us zs → RpWs C H α μ (vs ++ us) (ws ++ zs)
  | _, _, _, _, .nil, s => s
  | _, _, _, _, .cons r t, s => .cons r (RpWs.append t s)
theorem de_call {k : Nat} {x : Str} {gf : GF} {p : Pos} (ck : CK X E j) (hf : HasFn X.prog X.w X.K X.mg X.base T k x gf) (hr : DA X T E (a :: es) r) (hk : k ≤ j := by decide) (hg : Gl X x := by rfl) (hdb : (x == ("__debug__" : Str)) = false := by decide)
    (he : starEach (a :: es) X.env = (false, eval a X.env) :: starEach es X.env := by rfl) (hpl : (backTo pos (starEach es X.env)).any (·.1) = false := by rfl) : DE X T E (.Call (.Name x p) (a :: es) [] pos) (eCall gf r) := by
  obtain ⟨f, fd, ps, ds, dvs, dd, g0, h1, h2, h3, h4, h5, h6, h7⟩ := hf.ex
  refine pe_imp (pe_call h7 (ck.room.mono hk) hg h1 h2 h3 h4 ck.passes hr.pa hdb he hpl) fun σ H Q ⟨ρ, α, μ, S, sl, q⟩ => ?_
  refine hr.read (C := CvX X T) S sl q fun vs ws H1 α1 μ1 st S1 sl1 rs ln q1 => ?_
  rw [h6] at q1
  exact ⟨ws ++ dd.map W.d, α1, μ1, S1, rs.append (RpAll.ws (h5 _ _)), q1⟩
theorem de_call0 {k : Nat} {x : Str} {gf : GF} {p : Pos} (ck : CK X E j) (hf : HasFn X.prog X.w X.K X.mg X.base T k x gf) (hk : k ≤ j := by decide) (hg : Gl X x := by rfl) (hdb : (x == ("__debug__" : Str)) = false := by decide) : DE X T E (.Call (.Name x p) [] [] pos) (eCall gf aNil) := by
  obtain ⟨f, fd, ps, ds, dvs, dd, g0, h1, h2, h3, h4, h5, h6, h7⟩ := hf.ex
  refine pe_imp (pe_call0 h7 (ck.room.mono hk) hg h1 h2 h3 h4 ck.passes hdb) fun σ H Q ⟨ρ, α, μ, S, sl, q⟩ => ?_
  have q : PQ (CvX X T) E Q H α μ (gf [] μ) := q
  rw [h6] at q
  exact ⟨_, α, μ, S, RpAll.ws (h5 _ _), q⟩
/-- what is known of a def of the top: it stands there, its parameters are bound in their order -/
structure DefFact (K : PySem.W.Frag) (mg : Str → Option Value) (x : Str) (st : Stmt) (ps : List Str) : Prop where
  ex : ∃ f fd dvs kws, FunD K x x (defArgs st) (defBody st) (defScope st) dvs kws f fd ∧ mg x = some (.ref f) ∧ Binds K fd ps []
/-- .. with defaults for the last ones -/
structure DefFact1 (K : PySem.W.Frag) (mg : Str → Option Value) (x : Str) (st : Stmt) (ps : List Str) (dd : List PyData) : Prop where
  ex : ∃ f fd dvs kws ds, FunD K x x (defArgs st) (defBody st) (defScope st) dvs kws f fd ∧ mg x = some (.ref f) ∧ Binds K fd ps ds ∧ Vals dvs ds ∧ (∀ H M, RpAll K H M dvs dd)
end
end L3

set_option Elab.async false
set_option linter.all false
set_option maxRecDepth 100000
/-! Statements, loops, comprehensions, defs. -/
namespace L3
open PySem PySem.Spec PyProof.Rows L2 Mi

def QS (C : Cv) (E : XK) (D : Ends) (H : Hp) (α : Al) (μ : Sto) : RS → Prop
  | .nx ρ' μ' => ∀ σ' H' α', Step H α μ H' α' μ' → Stor C H' α' μ' → Sl C H' α' μ' σ' ρ' → D.nx σ' H'
  | .rt w μ' => ∀ v H' α', Step H α μ H' α' μ' → Stor C H' α' μ' → RpW C H' α' μ' v w → D.rt v H'
  | .bk ρ' μ' => ∀ σ' H' α', Step H α μ H' α' μ' → Stor C H' α' μ' → Sl C H' α' μ' σ' ρ' → D.bk σ' H'
  | .ct ρ' μ' => ∀ σ' H' α', Step H α μ H' α' μ' → Stor C H' α' μ' → Sl C H' α' μ' σ' ρ' → D.ct σ' H'
  | .er x μ' => ∀ cls d H' α', Step H α μ H' α' μ' → Stor C H' α' μ' → RpX C H' cls d x → E cls d H'
  | .no => False
theorem QS.step {C : Cv} {E : XK} {D : Ends} {H H1 : Hp} {α α1 : Al} {μ μ1 : Sto} {r : RS} (h : QS C E D H α μ r) (st : Step H α μ H1 α1 μ1) : QS C E D H1 α1 μ1 r := by
  cases r with
  | nx w μ' => exact fun v H' α' s S q => h v H' α' (st.trans s) S q
  | rt w μ' => exact fun v H' α' s S q => h v H' α' (st.trans s) S q
  | bk w μ' => exact fun v H' α' s S q => h v H' α' (st.trans s) S q
  | ct w μ' => exact fun v H' α' s S q => h v H' α' (st.trans s) S q
  | er x μ' => exact fun cls d H' α' s S q => h cls d H' α' (st.trans s) S q
  | no => exact h
def tS (C : Cv) (E : XK) (F : SF) : TS := fun D σ H => ∃ ρ α μ, Stor C H α μ ∧ Sl C H α μ σ ρ ∧ QS C E D H α μ (F ρ μ)
def DS (X : Cx) (T : List (Addr × Str)) (E : XK) (st : Stmt) (F : SF) : Prop := PS X st (tS (CvX X T) E F)
def DSs (X : Cx) (T : List (Addr × Str)) (E : XK) (st : List Stmt) (F : SF) : Prop := PSs X st (tS (CvX X T) E F)
section
variable {C : Cv} {E : XK} {D : Ends} {Q : VK} {H : Hp} {α : Al} {μ : Sto} {σ : L2.St} {ρ : Mi.Env} {f : EF}
theorem tD_bindS {Q' : VK} {k : W → Sto → RS} (S : Stor C H α μ) (sl : Sl C H α μ σ ρ) (h : QS C E D H α μ ((f ρ μ).bindS k))
    (cont : ∀ v w H1 α1 μ1, Step H α μ H1 α1 μ1 → Stor C H1 α1 μ1 → Sl C H1 α1 μ1 σ ρ → RpW C H1 α1 μ1 v w → QS C E D H1 α1 μ1 (k w μ1) → Q' v H1) : tD C E f σ H Q' := by
  refine ⟨ρ, α, μ, S, sl, ?_⟩
  cases e : f ρ μ with
  | ok w μ1 =>
    rw [e] at h
    exact fun v H1 α1 st S1 r => cont v w H1 α1 μ1 st S1 (sl.step st) r (QS.step (r := k w μ1) h st)
  | er x μ1 => rw [e] at h; exact h
  | no => rw [e] at h; exact (show False from h).elim
theorem QS.nx (S : Stor C H α μ) (sl : Sl C H α μ σ ρ) (h : QS C E D H α μ (.nx ρ μ)) : D.nx σ H := h σ H α (.refl _ _ _) S sl
theorem QS.rt {v : V} {w : W} (S : Stor C H α μ) (r : RpW C H α μ v w) (h : QS C E D H α μ (.rt w μ)) : D.rt v H := h v H α (.refl _ _ _) S r
theorem tS_seq {F G : SF} (h : tS C E (sSeq F G) D σ H) : tS C E F { D with nx := tS C E G D } σ H := by
  obtain ⟨ρ, α, μ, S, sl, q⟩ := h
  refine ⟨ρ, α, μ, S, sl, ?_⟩
  unfold sSeq at q
  cases e : F ρ μ with
  | nx ρ1 μ1 =>
    rw [e] at q
    exact fun σ' H' α' st S' sl' => ⟨ρ1, α', μ1, S', sl', QS.step q st⟩
  | rt w μ' => rw [e] at q; exact q
  | bk w μ' => rw [e] at q; exact q
  | ct w μ' => rw [e] at q; exact q
  | er x μ' => rw [e] at q; exact q
  | no => rw [e] at q; exact q
theorem tD_testS {Q' : VK} {k : Bool → Sto → RS} (S : Stor C H α μ) (sl : Sl C H α μ σ ρ) (h : QS C E D H α μ (RS.test (f ρ μ) k))
    (cont : ∀ b H1 α1 μ1, Step H α μ H1 α1 μ1 → Stor C H1 α1 μ1 → Sl C H1 α1 μ1 σ ρ → QS C E D H1 α1 μ1 (k b μ1) → Q' (.bl b) H1) : tD C E f σ H Q' := by
  refine tD_bindS (D := D) S sl h fun v w H1 α1 μ1 st S1 sl1 r q => ?_
  cases w with
  | d d =>
    cases d with
    | bool b => cases r; exact cont b H1 α1 μ1 st S1 sl1 q
    | none => exact (show False from q).elim
    | int i => exact (show False from q).elim
    | str i => exact (show False from q).elim
    | list i => exact (show False from q).elim
    | tuple i => exact (show False from q).elim
    | dict i => exact (show False from q).elim
  | m k => exact (show False from q).elim
  | f k => exact (show False from q).elim
  | x k => exact (show False from q).elim
  | e _ _ => exact (show False from q).elim
  | es _ => exact (show False from q).elim
/-! ### one's own list is written, or given away -/
theorem own_set {k : Nat} {o : Option Cell} {a : Addr} (h : Own α (μ.set k o) a) : Own α μ a ∨ (∃ c, o = some c ∧ α.own[k]? = some a) := by
  rcases h with ⟨j, c, h1, h2⟩ | h
  · by_cases e : k = j
    · subst e
      rw [List.getElem?_set] at h2
      simp only [if_true] at h2
      split at h2
      · exact .inr ⟨c, by simpa using h2, h1⟩
      · cases h2
    · rw [List.getElem?_set_ne e] at h2
      exact .inl (.inl ⟨j, c, h1, h2⟩)
  · exact .inl (.inr h)
theorem own_set' {k : Nat} {c c' : Cell} {a : Addr} (hk : μ[k]? = some (some c)) : Own α (μ.set k (some c')) a ↔ Own α μ a := by
  constructor
  · intro h
    rcases own_set h with h | ⟨_, _, h⟩
    · exact h
    · exact .inl ⟨k, c, h, hk⟩
  · rintro (⟨j, d, h1, h2⟩ | h)
    · by_cases e : k = j
      · subst e
        exact .inl ⟨k, c', h1, by rw [List.getElem?_set_self (List.getElem?_eq_some_iff.mp hk).1]⟩
      · exact .inl ⟨j, d, h1, by rw [List.getElem?_set_ne e]; exact h2⟩
    · exact .inr h
theorem nodup_at : ∀ {l : List Addr} {k j : Nat} {a : Addr}, l.Nodup → l[k]? = some a → l[j]? = some a → k = j
  | [], _, _, _, _, h, _ => by simp at h
  | x :: l, 0, 0, a, _, _, _ => rfl
  | x :: l, 0, j + 1, a, n, h1, h2 => by
    have e : x = a := by simpa using h1
    subst e
    exact absurd (List.mem_of_getElem? (by simpa using h2)) (List.nodup_cons.mp n).1
  | x :: l, k + 1, 0, a, n, h1, h2 => by
    have e : x = a := by simpa using h2
    subst e
    exact absurd (List.mem_of_getElem? (by simpa using h1)) (List.nodup_cons.mp n).1
  | x :: l, k + 1, j + 1, a, n, h1, h2 => congrArg (· + 1) (nodup_at (List.nodup_cons.mp n).2 (by simpa using h1) (by simpa using h2))
theorem Stor.uniq (S : Stor C H α μ) {k j : Nat} {a : Addr} (h1 : α.own[k]? = some a) (h2 : α.own[j]? = some a) : k = j := by
  exact nodup_at (List.nodup_append.mp S.nd).1 h1 h2
theorem Stor.nohid (S : Stor C H α μ) {k : Nat} {a : Addr} (h1 : α.own[k]? = some a) : a ∉ α.hid := fun z =>
  (List.nodup_append.mp S.nd).2.2 a (List.mem_of_getElem? h1) a z rfl
/-- a changing list is written -/
theorem own_write (S : Stor C H α μ) {k : Nat} {l l' : List PyData} {a : Addr} {xs' : List V} (hk : μ[k]? = some (some (.lst l))) (ha : α.own[k]? = some a) (r : RpAll C.K H (Own α μ) xs' l') :
    Step H α μ (upd H a (.lst xs')) α (μ.set k (some (.lst l'))) ∧ Stor C (upd H a (.lst xs')) α (μ.set k (some (.lst l'))) := by
  obtain ⟨a', ha', xs, hx, rx⟩ := S.cell k _ hk
  rw [ha] at ha'; cases ha'
  have oa : Own α μ a := .inl ⟨k, _, ha, hk⟩
  have st : Step H α μ (upd H a (.lst xs')) α (μ.set k (some (.lst l'))) := by
    refine ⟨⟨fun b o h n _ => ⟨?_, fun z => n ((own_set' hk).mp z)⟩, fun b ys h => ?_, fun b o u h => ?_⟩, fun _ _ h => h, rfl, fun b hb => ?_⟩
    · rw [upd_ne (fun e => n (by rw [e]; exact oa))]; exact h
    · rw [upd_ne (fun e => by rw [e, hx] at h; cases h)]; exact h
    · rw [upd_ne (fun e => by rw [e, hx] at h; cases h)]; exact h
    · rw [upd_ne (fun e => S.nohid ha (by rw [← e]; exact hb))]
  refine ⟨st, by rw [List.length_set]; exact S.len, S.nd, fun b hb => ?_, fun j c h => ?_, ?_⟩
  · by_cases e : b = a
    · rw [e]; exact ⟨_, upd_same, fun _ z => by cases z⟩
    · rw [upd_ne e]; exact S.there b hb
  · by_cases e : k = j
    · subst e
      rw [List.getElem?_set_self (List.getElem?_eq_some_iff.mp hk).1] at h
      cases h
      exact ⟨a, ha, xs', upd_same, r.ext st.ext⟩
    · rw [List.getElem?_set_ne e] at h
      obtain ⟨b, h1, h2⟩ := S.cell j c h
      have ne : b ≠ a := fun z => e (S.uniq ha (by rw [← z]; exact h1))
      refine ⟨b, h1, ?_⟩
      cases c with
      | lst l => obtain ⟨ys, e1, e2⟩ := h2; exact ⟨ys, by rw [upd_ne ne]; exact e1, e2.ext st.ext⟩
      | ins c fs => obtain ⟨A, dx, gs, e1, e2, e3, e4⟩ := h2; exact ⟨A, dx, gs, e1, by rw [upd_ne ne]; exact e2, e3, e4.ext st.ext⟩
  · intro p hp
    obtain ⟨ps, h1, h2, h3⟩ := S.tabs p hp
    have ne : p.1 ≠ a := fun e => by rw [e, hx] at h1; cases h1
    refine ⟨ps, by rw [upd_ne ne]; exact h1, h2, fun pos cv hc => ?_⟩
    obtain ⟨c, e1, e2⟩ := h3 pos cv hc
    refine ⟨c, e1, ?_⟩
    rw [upd_ne (fun e => by rw [e, hx] at e2; cases e2)]
    exact e2
/-- a changing list becomes plain data -/
theorem own_give (S : Stor C H α μ) {k : Nat} {l : List PyData} {a : Addr} (hk : μ[k]? = some (some (.lst l))) (ha : α.own[k]? = some a) :
    Step H α μ H α (μ.set k none) ∧ Stor C H α (μ.set k none) ∧ Rp C.K H (Own α (μ.set k none)) (.ref a) (.list l) := by
  obtain ⟨a', ha', xs, hx, rx⟩ := S.cell k _ hk
  rw [ha] at ha'; cases ha'
  have st : Step H α μ H α (μ.set k none) := by
    refine ⟨⟨fun b o h n _ => ⟨h, fun z => ?_⟩, fun b ys h => h, fun b o u h => h⟩, fun _ _ h => h, rfl, fun b hb => rfl⟩
    rcases own_set z with z | ⟨c, z, _⟩
    · exact n z
    · cases z
  refine ⟨st, ⟨by rw [List.length_set]; exact S.len, S.nd, S.there, fun j c h => ?_, S.tabs⟩, .lst (.inl hx) (fun z => ?_) (rx.ext st.ext)⟩
  · by_cases e : k = j
    · subst e
      rw [List.getElem?_set_self (List.getElem?_eq_some_iff.mp hk).1] at h
      cases h
    · rw [List.getElem?_set_ne e] at h
      obtain ⟨b, h1, h2⟩ := S.cell j c h
      refine ⟨b, h1, ?_⟩
      cases c with
      | lst l => obtain ⟨ys, e1, e2⟩ := h2; exact ⟨ys, e1, e2.ext st.ext⟩
      | ins c fs => obtain ⟨A, dx, gs, e1, e2, e3, e4⟩ := h2; exact ⟨A, dx, gs, e1, e2, e3, e4.ext st.ext⟩
  · rcases z with ⟨j, c, h1, h2⟩ | z
    · have e := S.uniq ha h1
      subst e
      rw [List.getElem?_set_self (List.getElem?_eq_some_iff.mp hk).1] at h2
      cases h2
    · exact S.nohid ha z
end

section
variable {X : Cx} {T : List (Addr × Str)} {E : XK} {j : Nat} {pos : Pos} {a b c : Expr} {f g h : EF} {st : Stmt} {rest body : List Stmt} {F G : SF}
theorem dss_nil : DSs X T E [] sNil := pss_imp pss_nil fun D σ H ⟨ρ, α, μ, S, sl, q⟩ => QS.nx S sl q
theorem dss_cons (h1 : DS X T E st F) (h2 : DSs X T E rest G) : DSs X T E (st :: rest) (sSeq F G) := pss_imp (pss_cons h1 h2) fun D σ H q => tS_seq q
theorem dss_one (h1 : DS X T E st F) : DSs X T E [st] F := pss_one h1
theorem ds_pass : DS X T E (.Pass pos) sNil := ps_imp ps_pass fun D σ H ⟨ρ, α, μ, S, sl, q⟩ => QS.nx S sl q
theorem ds_break : DS X T E (.Break pos) sBreak := ps_imp ps_break fun D σ H ⟨ρ, α, μ, S, sl, q⟩ => q σ H α (.refl _ _ _) S sl
theorem ds_cont : DS X T E (.Continue pos) sCont := ps_imp ps_continue fun D σ H ⟨ρ, α, μ, S, sl, q⟩ => q σ H α (.refl _ _ _) S sl
theorem ds_expr (ha : DE X T E a f) (hs : swapsWith a none pos.line X.env = pure false := by rfl) : DS X T E (.Expr a pos) (sDrop f) :=
  ps_imp (ps_expr ha hs) fun D σ H ⟨ρ, α, μ, S, sl, q⟩ => tD_bindS S sl q fun v w H1 α1 μ1 st S1 sl1 r q1 => QS.nx S1 sl1 q1
theorem ds_ret (ha : DE X T E a f) : DS X T E (.Return (some a) pos) (sRet f) :=
  ps_imp (ps_ret ha) fun D σ H ⟨ρ, α, μ, S, sl, q⟩ => tD_bindS S sl q fun v w H1 α1 μ1 st S1 sl1 r q1 => QS.rt S1 r q1
theorem ds_retN : DS X T E (.Return none pos) (sRet eNon) :=
  ps_imp ps_retN fun D σ H ⟨ρ, α, μ, S, sl, q⟩ => QS.rt (w := .d .none) S .non q
theorem ds_retF (ha : DE X T E a f) : DS X T E (.Return (some a) pos) (sRetF f) :=
  ps_imp (ps_ret ha) fun D σ H ⟨ρ, α, μ, S, sl, q⟩ => tD_bindS S sl q fun v w H1 α1 μ1 st S1 sl1 r q1 => by
    cases w with
    | d d => exact QS.rt S1 r q1
    | f x => exact (show False from q1).elim
    | x k => exact (show False from q1).elim
    | e _ _ => exact (show False from q1).elim
    | es _ => exact (show False from q1).elim
    | m k =>
      obtain ⟨a, ha, rfl⟩ := r
      cases e : mlist μ1 k with
      | none => simp [Mi.view, e] at q1; exact (show False from q1).elim
      | some l =>
        simp [Mi.view, e] at q1
        obtain ⟨st2, S2, r2⟩ := own_give S1 (mlist_at e) ha
        exact q1 _ _ _ st2 S2 r2
theorem ds_set (i : Nat) {x : Str} {p' : Pos} (ck : CK X E j) (ha : DE X T E a f) (hi : X.N[i]? = some x := by rfl) (hx : Loc X.env.scope x := by first | exact Or.inl rfl | exact Or.inr rfl) (hs : swapsWith a (some (.Name x p')) pos.line X.env = pure false := by rfl)
    (hf : X.fn x = true ∨ X.env.scope.names.lookup x = some .local := by first | exact Or.inl rfl | exact Or.inr rfl) : DS X T E (.Assign [.Name x p'] a pos) (sAsg i f) :=
  ps_imp (ps_set ck.nd hi hx ha hs hf) fun D σ H ⟨ρ, α, μ, S, sl, q⟩ => tD_bindS S sl q fun v w H1 α1 μ1 st S1 sl1 r q1 => QS.nx S1 (sl1.set r i) q1
theorem ds_setN (i : Nat) {x : Str} {p' : Pos} (nd : X.N.Nodup) (ha : DE X T E a f) (hi : X.N[i]? = some x := by rfl) (hx : Loc X.env.scope x := by first | exact Or.inl rfl | exact Or.inr rfl) (hs : swapsWith a (some (.Name x p')) pos.line X.env = pure false := by rfl)
    (hf : X.fn x = true ∨ X.env.scope.names.lookup x = some .local := by first | exact Or.inl rfl | exact Or.inr rfl) : DS X T E (.Assign [.Name x p'] a pos) (sAsg i f) :=
  ps_imp (ps_set nd hi hx ha hs hf) fun D σ H ⟨ρ, α, μ, S, sl, q⟩ => tD_bindS S sl q fun v w H1 α1 μ1 st S1 sl1 r q1 => QS.nx S1 (sl1.set r i) q1
theorem ds_par (i k : Nat) {x y : Str} {px py pt : Pos} {kt k2 pt2} (ck : CK X E j) (ha : DE X T E a f) (hb : DE X T E b g) (hi : X.N[i]? = some x := by rfl) (hj : X.N[k]? = some y := by rfl) (hij : i ≠ k := by decide) (hx : X.env.scope.names.lookup x = some .local := by rfl) (hy : X.env.scope.names.lookup y = some .local := by rfl)
    (hw : swappedStores [.Tuple [.Name x px, .Name y py] kt pt] (.Tuple [a, b] k2 pt2) X.env = pure (some [x, y]) := by rfl)
    (hs : swapsWithSole [.Tuple [.Name x px, .Name y py] kt pt] (.Tuple [a, b] k2 pt2) pos.line X.env = pure false := by rfl)
    (hs1 : starEach [a, b] X.env = (false, eval a X.env) :: starEach [b] X.env := by rfl) (hs2 : starEach [b] X.env = (false, eval b X.env) :: starEach [] X.env := by rfl) :
    DS X T E (.Assign [.Tuple [.Name x px, .Name y py] kt pt] (.Tuple [a, b] k2 pt2) pos) (sPar i k f g) :=
  ps_imp (ps_par ck.calm ck.nd hi hj hij hx hy (pa_cons ha (pa_cons hb pa_nil hs2) hs1) hw hs) fun D σ H ⟨ρ, α, μ, S, sl, q⟩ => tD_bindS S sl q fun v w H1 α1 μ1 st S1 sl1 r q1 => tD_bindS S1 sl1 q1 fun v2 w2 H2 α2 μ2 st2 S2 sl2 r2 q2 =>
    ⟨v, v2, rfl, QS.nx S2 ((sl2.set (r.step st2) i).set r2 k) q2⟩
theorem ds_if (hc : DT X T E c f) (h1 : DSs X T E body F) (h2 : DSs X T E rest G) : DS X T E (.If c body rest pos) (sIf f F G) :=
  ps_imp (ps_if hc h1 h2) fun D σ H ⟨ρ, α, μ, S, sl, q⟩ => tD_testS S sl q fun k H1 α1 μ1 st S1 sl1 q1 => ⟨k, rfl, by
    cases k with
    | true => rw [if_pos rfl] at q1 ⊢; exact ⟨ρ, α1, μ1, S1, sl1, q1⟩
    | false => rw [if_neg Bool.false_ne_true] at q1 ⊢; exact ⟨ρ, α1, μ1, S1, sl1, q1⟩⟩
/-! ### targets -/
/-- only these slots are otherwise -/
def Only (ks : List Nat) (σ σ1 : L2.St) : Prop := σ1.length = σ.length ∧ ∀ k, k ∉ ks → σ1[k]? = σ[k]?
theorem wipe_at (σ : L2.St) (k : Nat) : ∀ vs : List Nat, (L2.wipe σ vs)[k]? = if k ∈ vs then (σ[k]?).map fun _ => none else σ[k]?
  | [] => by simp [L2.wipe]
  | i :: r => by
    have ih := wipe_at σ k r
    show ((L2.wipe σ r).set i none)[k]? = _
    by_cases e : i = k
    · subst e
      rw [List.getElem?_set]
      simp only [if_true, List.mem_cons, true_or]
      split
      · rename_i h
        rw [L2.wipe_length] at h
        rw [List.getElem?_eq_getElem h]
        rfl
      · rename_i h
        rw [L2.wipe_length] at h
        rw [List.getElem?_eq_none (by omega)]
        rfl
    · rw [List.getElem?_set_ne e, ih]
      have : (k ∈ i :: r) ↔ k ∈ r := by
        rw [List.mem_cons]
        exact ⟨fun h => h.elim (fun z => absurd z.symm e) id, .inr⟩
      simp only [this]
theorem Only.wipe {ks vs : List Nat} {σ σ1 : L2.St} (h : Only ks σ σ1) (hs : ∀ k ∈ ks, k ∈ vs) : L2.wipe σ1 vs = L2.wipe σ vs := by
  refine List.ext_getElem? fun k => ?_
  rw [wipe_at, wipe_at]
  by_cases hk : k ∈ vs
  · rw [if_pos hk, if_pos hk]
    have l1 := h.1
    by_cases hl : k < σ.length
    · rw [List.getElem?_eq_getElem (show k < σ1.length by omega), List.getElem?_eq_getElem hl]
      rfl
    · rw [List.getElem?_eq_none (show σ1.length ≤ k by omega), List.getElem?_eq_none (show σ.length ≤ k by omega)]
  · rw [if_neg hk, if_neg hk]
    exact h.2 k fun z => hk (hs k z)
def tG (C : Cv) (t : TF) (ks : List Nat) : TG := fun v σ H Q => ∃ ρ α μ d ρ1, Stor C H α μ ∧ Sl C H α μ σ ρ ∧ Rp C.K H (Own α μ) v d ∧ t d ρ = some ρ1 ∧ ∀ σ1, Only ks σ σ1 → Sl C H α μ σ1 ρ1 → Q σ1 H
def DG (X : Cx) (T : List (Addr × Str)) (tg : Expr) (t : TF) (ks : List Nat) : Prop := PG X tg (tG (CvX X T) t ks)
theorem pg_imp {tg : Expr} {t t' : TG} (h : PG X tg t) (i : ∀ v σ H Q, t' v σ H Q → t v σ H Q) : PG X tg t' := ⟨fun pins s σ H v u Q I r q => h.run pins s σ H v u Q I r (i _ _ _ _ q)⟩
theorem pgs_imp {tg : List Expr} {t t' : TGs} (h : PGs X tg t) (i : ∀ v σ H Q, t' v σ H Q → t v σ H Q) : PGs X tg t' := ⟨fun pins s σ H v u Q I r q => h.run pins s σ H v u Q I r (i _ _ _ _ q)⟩
theorem dg_name (i : Nat) {x : Str} (nd : X.N.Nodup) (hi : X.N[i]? = some x := by rfl) (hx : Loc X.env.scope x := by first | exact Or.inl rfl | exact Or.inr rfl) (hf : X.fn x = true ∨ X.env.scope.names.lookup x = some .local := by first | exact Or.inl rfl | exact Or.inr rfl) : DG X T (.Name x pos) (tName i) [i] :=
  pg_imp (pg_name nd hi hx hf) fun v σ H Q ⟨ρ, α, μ, d, ρ1, S, sl, r, e, q⟩ => by
    cases e
    exact q _ ⟨by simp, fun k hk => List.getElem?_set_ne fun e => hk (by simp [e])⟩ (sl.set (w := .d d) r i)
structure DGs (X : Cx) (T : List (Addr × Str)) (es : List Expr) (ts : List TF) (ks : List Nat) : Prop where
  pgs : PGs X es (fun vs σ H Q => ∃ ρ α μ ds ρ1, Stor (CvX X T) H α μ ∧ Sl (CvX X T) H α μ σ ρ ∧ RpAll X.K H (Own α μ) vs ds ∧ tTups ts ds ρ = some ρ1 ∧ ∀ σ1, Only ks σ σ1 → Sl (CvX X T) H α μ σ1 ρ1 → Q σ1 H)
  len : es.length = ts.length
theorem dgs_nil : DGs X T [] [] [] := by
  refine ⟨pgs_imp pgs_nil fun v σ H Q ⟨ρ, α, μ, ds, ρ1, S, sl, r, e, q⟩ => ?_, rfl⟩
  cases r with
  | nil => cases e; exact ⟨rfl, q _ ⟨rfl, fun _ _ => rfl⟩ sl⟩
  | cons r t => cases e
theorem Only.trans {ks ls : List Nat} {σ σ1 σ2 : L2.St} (a : Only ks σ σ1) (b : Only ls σ1 σ2) : Only (ks ++ ls) σ σ2 :=
  ⟨b.1.trans a.1, fun k hk => (b.2 k fun z => hk (List.mem_append_right _ z)).trans (a.2 k fun z => hk (List.mem_append_left _ z))⟩
theorem dgs_cons {t : TF} {ts : List TF} {es : List Expr} {ks ls : List Nat} (h1 : DG X T a t ks) (h2 : DGs X T es ts ls) (hs : (assignEach (a :: es) X.env).map (·.2) = assign a X.env :: (assignEach es X.env).map (·.2) := by rfl) : DGs X T (a :: es) (t :: ts) (ks ++ ls) := by
  refine ⟨pgs_imp (pgs_cons h1 h2.pgs hs) fun v σ H Q ⟨ρ, α, μ, ds, ρ1, S, sl, r, e, q⟩ => ?_, congrArg (· + 1) h2.len⟩
  cases r with
  | nil => cases e
  | @cons v' vs' d ds r rr =>
    unfold tTups at e
    cases e1 : t d ρ with
    | none => rw [e1] at e; cases e
    | some ρ2 =>
      rw [e1] at e
      exact ⟨_, _, rfl, ρ, α, μ, d, ρ2, S, sl, r, e1, fun σ1 o1 sl1 => ⟨ρ2, α, μ, ds, ρ1, S, sl1, rr, e, fun σ2 o2 sl2 => q σ2 (o1.trans o2) sl2⟩⟩
theorem tTups_len : ∀ {ts : List TF} {ds : List PyData} {ρ ρ1 : Mi.Env}, tTups ts ds ρ = some ρ1 → ts.length = ds.length
  | [], [], _, _, _ => rfl
  | [], _ :: _, _, _, e => by cases e
  | _ :: _, [], _, _, e => by cases e
  | t :: ts, d :: ds, ρ, ρ1, e => by
    unfold tTups at e
    cases e1 : t d ρ with
    | none => rw [e1] at e; cases e
    | some ρ2 => rw [e1] at e; exact congrArg (· + 1) (tTups_len e)
theorem dg_tup {ts : List TF} {es : List Expr} {k : Nat} {ks : List Nat} (hc : X.calm = true) (h : DGs X T es ts ks) (hn : (assignEach es X.env).length = es.length := by rfl) (hst : (assignEach es X.env).findIdx? (·.1) = none := by rfl) : DG X T (.Tuple es k pos) (Mi.tTup ts) ks :=
  pg_imp (pg_tup hc h.pgs hn hst) fun v σ H Q ⟨ρ, α, μ, d, ρ1, S, sl, r, e, q⟩ => by
    unfold Mi.tTup at e
    split at e
    · rename_i ds
      obtain ⟨p1, ys, rfl, h1, r1⟩ := RpT.tuple (.inl r)
      exact ⟨p1, ys, rfl, h1, by rw [r1.length, h.len, tTups_len e], ρ, α, μ, ds, ρ1, S, sl, r1, e, q⟩
    · cases e
theorem dg_unl {ts : List TF} {es : List Expr} {k : Nat} {ks : List Nat} (hc : X.calm = true) (h : DGs X T es ts ks) (hn : (assignEach es X.env).length = es.length := by rfl) (hst : (assignEach es X.env).findIdx? (·.1) = none := by rfl) : DG X T (.Tuple es k pos) (Mi.tUnl ts) ks :=
  pg_imp (pg_unl hc h.pgs hn hst) fun v σ H Q ⟨ρ, α, μ, d, ρ1, S, sl, r, e, q⟩ => by
    unfold Mi.tUnl at e
    split at e
    · rename_i ds
      obtain ⟨p1, ys, rfl, h1, r1⟩ := RpT.list (.inl r)
      exact ⟨p1, ys, rfl, .inl h1, by rw [r1.length, h.len, tTups_len e], ρ, α, μ, ds, ρ1, S, sl, r1, e, q⟩
    · cases e
theorem ds_tgt {tg : Expr} {t : TF} {ks : List Nat} (ha : DE X T E a f) (hg : DG X T tg t ks) (hs : swapsWithSole [tg] a pos.line X.env = pure false := by rfl) (hw : swappedStores [tg] a X.env = pure none := by rfl)
    (h1 : (assignEach [tg] X.env).map (·.2) = [assign tg X.env] := by rfl) : DS X T E (.Assign [tg] a pos) (sTgt t f) :=
  ps_imp (ps_asg ha hg hs hw h1) fun D σ H ⟨ρ, α, μ, S, sl, q⟩ => tD_bindS S sl q fun v w H1 α1 μ1 st S1 sl1 r q1 => by
    cases w with
    | d d =>
      dsimp only at q1
      split at q1
      · rename_i ρ1 e
        exact ⟨ρ, α1, μ1, d, ρ1, S1, sl1, r, e, fun σ1 _ sl2 => QS.nx S1 sl2 q1⟩
      · exact (show False from q1).elim
    | m k => exact (show False from q1).elim
    | f k => exact (show False from q1).elim
    | x k => exact (show False from q1).elim
    | e _ _ => exact (show False from q1).elim
    | es _ => exact (show False from q1).elim
/-! ### lists that change -/
theorem de_app {p' : Pos} (ha : DE X T E a f) (hb : DE X T E b g) (hbase : attributeBase a "append" X.env (eval a X.env) = eval a X.env := by rfl)
    (hfew : ((backTo pos (starEach [b] X.env)).all (fun x => !x.1) && (backToKw pos (keywordEach [] X.env)).all (fun x => x.1.isSome) && decide ([b].length + ([] : List Keyword).length + (if ([] : List Keyword).isEmpty then 0 else 1) < 30)) = true := by rfl)
    (hline : (p'.endLine == pos.line) = true := by rfl) (hs : starEach [b] X.env = (false, eval b X.env) :: starEach [] X.env := by rfl) (hpl : (backTo pos (starEach [] X.env)).any (·.1) = false := by rfl) :
    DE X T E (.Call (.Attribute a "append" p') [b] [] pos) (eApp f g) :=
  pe_imp (pe_bm PySem.F.plainAttrs_list PySem.F.slot_list_append PySem.F.type_list_append mt_append ha (pa_cons hb pa_nil hs) hbase hfew hline hs hpl) fun σ H Q ⟨ρ, α, μ, S, sl, q⟩ =>
    tD_bind S sl q fun v w H1 α1 μ1 st S1 sl1 r q1 => by
      cases w with
      | d d => exact (show False from q1).elim
      | f k => exact (show False from q1).elim
      | x k => exact (show False from q1).elim
      | e _ _ => exact (show False from q1).elim
      | es _ => exact (show False from q1).elim
      | m k =>
        dsimp only at q1
        split at q1
        · rename_i l0 e0
          obtain ⟨p1, hp, rfl⟩ := r
          obtain ⟨p1', hp', xs0, hx0, _⟩ := S1.cell k _ (mlist_at e0)
          rw [hp] at hp'; cases hp'
          refine ⟨.inl ⟨rfl, xs0, .inl (.inl hx0)⟩, ?_⟩
          refine tD_bind S1 sl1 q1 fun v2 w2 H2 α2 μ2 st2 S2 sl2 r2 q2 => ?_
          split at q2
          · rename_i d l e1
            split at q2
            · rename_i hl
              have hp2 := st2.pre _ _ hp
              obtain ⟨p2, hp', xs, hx, rx⟩ := S2.cell k _ (mlist_at e1)
              rw [hp2] at hp'; cases hp'
              obtain ⟨st3, S3⟩ := own_write S2 (mlist_at e1) hp2 (rx.append (.cons r2 .nil))
              exact ⟨p1, xs, v2, rfl, rfl, hx, by rw [rx.length]; exact Nat.lt_of_lt_of_le hl (by decide), q2 .non _ α2 st3 S3 .non⟩
            · exact (show False from q2).elim
          · exact (show False from q2).elim
        · exact (show False from q1).elim
/-- o[i] = e -/
theorem ds_sub {p' : Pos} (hv : DE X T E c h) (ho : DE X T E a f) (hi : DE X T E b g) (hs : swapsWithSole [.Subscript a b p'] c pos.line X.env = pure false := by rfl) (hw : swappedStores [.Subscript a b p'] c X.env = pure none := by rfl)
    (h1 : (assignEach [.Subscript a b p'] X.env).map (·.2) = [assign (.Subscript a b p') X.env] := by rfl)
    (ha : ∀ v, assign (.Subscript a b p') X.env v = (do
      let ov ← holding [v] (eval a X.env)
      let iv ← holding [v, ov] (eval b X.env)
      standAt p'
      holding [v, ov, iv] (setItem ov iv v)
      release [v, ov, iv] []) := by intro _; rfl) : DS X T E (.Assign [.Subscript a b p'] c pos) (sSub f g h) :=
  ps_imp (ps_asg hv (pg_sub ho hi set_list ha) hs hw h1) fun D σ H ⟨ρ, α, μ, S, sl, q⟩ => tD_bindS S sl q fun v w H1 α1 μ1 st1 S1 sl1 r1 q1 =>
    tD_bindS S1 sl1 q1 fun v2 w2 H2 α2 μ2 st2 S2 sl2 r2 q2 => tD_bindS S2 sl2 q2 fun v3 w3 H3 α3 μ3 st3 S3 sl3 r3 q3 => by
      split at q3
      · rename_i d k n
        split at q3
        · rename_i l e1
          split at q3
          · rename_i p e2
            obtain ⟨p1, hp, rfl⟩ := r2
            have hp3 := st3.pre _ _ hp
            obtain ⟨p2, hp', xs, hx, rx⟩ := S3.cell k _ (mlist_at e1)
            rw [hp3] at hp'; cases hp'
            have hn : v3 = .int n := RpT.int (.inl r3)
            subst hn
            obtain ⟨st4, S4⟩ := own_write S3 (mlist_at e1) hp3 (rx.set ((r1.step st2).step st3) p)
            refine ⟨p1, xs, n, p, rfl, rfl, hx, ?_, q3 σ _ α3 st4 S4 (sl3.step st4)⟩
            rw [rx.length]
            exact e2
          · exact (show False from q3).elim
        · exact (show False from q3).elim
      · exact (show False from q3).elim
end
end L3

set_option Elab.async false
set_option linter.all false
set_option maxRecDepth 100000
/-! What is walked; for, while, comprehensions. -/
namespace L3
open PySem PySem.Spec PyProof.Rows L2 Mi

/-- the iterator hands out these things, whatever comes -/
def Yields (C : Cv) (J : It) (l : List PyData) (H : Hp) (M : Addr → Prop) : Prop := ∀ i H2 M2, Ext H M H2 M2 → (∀ a, H2 a = none → ¬ M2 a) →
  (∀ d, l[i]? = some d → J.go i H2 ∧ ∀ x H', J.yld i H2 x H' → Same H2 H' ∧ Rp C.K H' M2 x d) ∧ (l.length ≤ i → J.stop i H2)
def tI (C : Cv) (E : XK) (it : IF) : TI := fun σ H R => ∃ ρ α μ, Stor C H α μ ∧ Sl C H α μ σ ρ ∧ (match it ρ μ with
  | .ok l μ1 => ∀ J H1 α1, Step H α μ H1 α1 μ1 → Stor C H1 α1 μ1 → l.length ≤ sizeLine → Yields C J l H1 (Own α1 μ1) → R J H1
  | .er x μ1 => ∀ cls d H1 α1, Step H α μ H1 α1 μ1 → Stor C H1 α1 μ1 → RpX C H1 cls d x → E cls d H1
  | .no => False)
def DI (X : Cx) (T : List (Addr × Str)) (E : XK) (tg e : Expr) (it : IF) : Prop := PI X tg e (tI (CvX X T) E it)
theorem pi_imp {X : Cx} {tg e : Expr} {t t' : TI} (h : PI X tg e t) (i : ∀ σ H Q, t' σ H Q → t σ H Q) : PI X tg e t' := ⟨fun pins s σ H Q I q => h.run pins s σ H Q I (i _ _ _ q)⟩
theorem pi_impI {X : Cx} {tg e : Expr} {t t' : TI} (h : PI X tg e t) (i : ∀ pins s σ H Q, Inv X pins σ H s → t' σ H Q → t σ H Q) : PI X tg e t' := ⟨fun pins s σ H Q I q => h.run pins s σ H Q I (i _ _ _ _ _ I q)⟩
section
variable {C : Cv} {E : XK} {H : Hp} {α : Al} {μ : Sto} {σ : L2.St} {ρ : Mi.Env} {f g : EF}
theorem tD_bindI {Q' : VK} {k : W → Sto → R (List PyData)} {R' : It → Hp → Prop} (S : Stor C H α μ) (sl : Sl C H α μ σ ρ) (h : match (f ρ μ).bind k with
    | .ok l μ1 => ∀ J H1 α1, Step H α μ H1 α1 μ1 → Stor C H1 α1 μ1 → l.length ≤ sizeLine → Yields C J l H1 (Own α1 μ1) → R' J H1
    | .er x μ1 => ∀ cls d H1 α1, Step H α μ H1 α1 μ1 → Stor C H1 α1 μ1 → RpX C H1 cls d x → E cls d H1
    | .no => False)
    (cont : ∀ v w H1 α1 μ1, Step H α μ H1 α1 μ1 → Stor C H1 α1 μ1 → Sl C H1 α1 μ1 σ ρ → RpW C H1 α1 μ1 v w → (match k w μ1 with
    | .ok l μ2 => ∀ J H2 α2, Step H1 α1 μ1 H2 α2 μ2 → Stor C H2 α2 μ2 → l.length ≤ sizeLine → Yields C J l H2 (Own α2 μ2) → R' J H2
    | .er x μ2 => ∀ cls d H2 α2, Step H1 α1 μ1 H2 α2 μ2 → Stor C H2 α2 μ2 → RpX C H2 cls d x → E cls d H2
    | .no => False) → Q' v H1) : tD C E f σ H Q' := by
  refine ⟨ρ, α, μ, S, sl, ?_⟩
  cases e : f ρ μ with
  | ok w μ1 =>
    rw [e, Mi.R.bind_ok] at h
    intro v H1 α1 st S1 r
    refine cont v w H1 α1 μ1 st S1 (sl.step st) r ?_
    cases e2 : k w μ1 with
    | ok l μ2 => rw [e2] at h; exact fun J H2 α2 s S2 z y => h J H2 α2 (st.trans s) S2 z y
    | er x μ2 => rw [e2] at h; exact fun cls d H2 α2 s S2 z => h cls d H2 α2 (st.trans s) S2 z
    | no => rw [e2] at h; exact h
  | er x μ1 => rw [e] at h; exact h
  | no => rw [e] at h; exact h.elim
theorem yields_list {M : Addr → Prop} {a : Addr} {xs : List V} {ds : List PyData} (hx : Rd H a (.lst xs)) (n : ¬ M a) (r : RpAll C.K H M xs ds) : Yields C (Itl C.K a) ds H M := by
  intro i H2 M2 st _
  have h2 : SqL C.K H2 a xs := .inl (st.rd hx n).1
  have r2 := r.ext st
  refine ⟨fun d e => ?_, fun h => ⟨xs, h2, by rw [r2.length]; exact h⟩⟩
  obtain ⟨v, h3, h4⟩ := r2.get e
  refine ⟨⟨xs, v, h2, h3⟩, fun x H' y => ?_⟩
  obtain ⟨e', y⟩ := y
  subst e'
  have e2 := y xs h2
  rw [h3] at e2; cases e2
  exact ⟨.refl _, h4⟩
theorem yields_tup {M : Addr → Prop} {a : Addr} {xs : List V} {ds : List PyData} (hx : SqT C.K H a xs) (r : RpAll C.K H M xs ds) : Yields C (Itt C.K a) ds H M := by
  intro i H2 M2 st _
  have h2 : SqT C.K H2 a xs := st.sqT hx
  have r2 := r.ext st
  refine ⟨fun d e => ?_, fun h => ⟨xs, h2, by rw [r2.length]; exact h⟩⟩
  obtain ⟨v, h3, h4⟩ := r2.get e
  refine ⟨⟨xs, v, h2, h3⟩, fun x H' y => ?_⟩
  obtain ⟨e', y⟩ := y
  subst e'
  have e2 := y xs h2
  rw [h3] at e2; cases e2
  exact ⟨.refl _, h4⟩
theorem yields_str {M : Addr → Prop} (x : Str) : Yields C (Its x) (charsOf x) H M := by
  intro i H2 M2 st _
  refine ⟨fun d e => ?_, fun h => by rw [charsOf, List.length_map, Array.length_toList] at h; exact h⟩
  unfold charsOf at e
  rw [List.getElem?_map] at e
  cases e1 : x.cps.toList[i]? with
  | none => rw [e1] at e; cases e
  | some c =>
    rw [e1] at e
    cases e
    have hi : i < x.cps.size := by
      have := (List.getElem?_eq_some_iff.mp e1).1
      rwa [Array.length_toList] at this
    refine ⟨hi, fun v H' yy => ?_⟩
    obtain ⟨rfl, c', h1, rfl⟩ := yy
    rw [Array.getElem?_toList, h1] at e1
    cases e1
    exact ⟨.refl _, .str _⟩
theorem rangeD_get (a b : Int) {i : Nat} {d : PyData} (h : (rangeD a b)[i]? = some d) : i < (b - a).toNat ∧ d = .int (a + i) := by
  unfold rangeD at h
  rw [List.getElem?_map] at h
  cases e : (List.range (b - a).toNat)[i]? with
  | none => rw [e] at h; cases h
  | some k =>
    rw [e] at h
    cases h
    obtain ⟨h1, h2⟩ := List.getElem?_eq_some_iff.mp e
    rw [List.getElem_range] at h2
    subst h2
    exact ⟨by simpa using h1, rfl⟩
theorem rangeD_len (a b : Int) : (rangeD a b).length = (b - a).toNat := by simp [rangeD]
theorem yields_range {M : Addr → Prop} (a b : Int) : Yields C (Itr a (b - a).toNat) (rangeD a b) H M := by
  intro i H2 M2 st _
  refine ⟨fun d e => ?_, fun h => by rw [rangeD_len] at h; exact h⟩
  obtain ⟨h1, rfl⟩ := rangeD_get a b e
  refine ⟨h1, fun x H' y => ?_⟩
  obtain ⟨e', y⟩ := y
  subst e' y
  exact ⟨.refl _, .int _⟩
end
section
variable {X : Cx} {T : List (Addr × Str)} {E : XK} {j : Nat} {pos : Pos} {tg a b c : Expr} {f g h : EF} {st : Stmt} {rest body : List Stmt} {F G : SF}
theorem list_line {pins : List (Addr × Obj)} {s : Shared} {σ : L2.St} {H : Hp} {p : Addr} {xs : List V} (I : Inv X pins σ H s) (h : SqL X.K H p xs) : xs.length ≤ sizeLine := let ⟨_, _, _, z⟩ := I.list h; z
theorem tup_line {pins : List (Addr × Obj)} {s : Shared} {σ : L2.St} {H : Hp} {p : Addr} {xs : List V} (I : Inv X pins σ H s) (h : SqT X.K H p xs) : xs.length ≤ sizeLine := let ⟨_, _, _, z⟩ := I.tuple h; z
/-- behind an expression the state is one of ours -/
theorem pe_inv {e : Expr} {t : TE} (h : PE X e t) : PE X e (fun σ H Q => t σ H fun v H1 => (∀ pins s, Inv X pins σ H1 s → Q v H1)) :=
  ⟨fun pins s σ H Q I q => thn (h.run pins s σ H _ I q) fun u s' ⟨v, H', I', r, q'⟩ => ⟨v, H', I', r, q' pins s' I'⟩⟩
/-- a list or a tuple, as the data shows -/
theorem di_seq (ha : DE X T E a f) : DI X T E tg a (iSeq f) := by
  refine ⟨fun pins s σ H R' I ⟨ρ, α, μ, S, sl, q⟩ => ?_⟩
  unfold iSeq at q
  cases e : f ρ μ with
  | no => rw [e] at q; exact q.elim
  | er x μ1 =>
    refine (pi_list ha).run pins s σ H R' I ⟨ρ, α, μ, S, sl, ?_⟩
    rw [e] at q ⊢
    exact q
  | ok w μ1 =>
    rw [e, Mi.R.bind_ok] at q
    cases w with
    | m k => exact q.elim
    | f k => exact q.elim
    | x k => exact q.elim
    | e _ _ => exact q.elim
    | es _ => exact q.elim
    | d d =>
      cases d with
      | list l =>
        refine (pi_list (pe_inv ha)).run pins s σ H R' I ⟨ρ, α, μ, S, sl, ?_⟩
        rw [e]
        intro v H1 α1 st S1 r pins2 s2 I2
        cases r with
        | lst hx n rr => exact ⟨_, rfl, ⟨_, .inl hx⟩, q _ H1 α1 st S1 (by rw [← rr.length]; exact list_line I2 (.inl hx)) (yields_list hx n rr)⟩
      | tuple l =>
        refine (pi_tup (pe_inv ha)).run pins s σ H R' I ⟨ρ, α, μ, S, sl, ?_⟩
        rw [e]
        intro v H1 α1 st S1 r pins2 s2 I2
        cases r with
        | tup hx rr => exact ⟨_, rfl, ⟨_, hx⟩, q _ H1 α1 st S1 (by rw [← rr.length]; exact tup_line I2 hx) (yields_tup hx rr)⟩
      | none => exact q.elim
      | bool b => exact q.elim
      | int b => exact q.elim
      | str b =>
        refine (pi_str ha).run pins s σ H R' I ⟨ρ, α, μ, S, sl, ?_⟩
        rw [e]
        intro v H1 α1 st S1 r
        cases r
        have q : (match (Mi.ofO (items (.str b)) μ1 : R (List PyData)) with
          | .ok l μ1 => ∀ J H1 α1, Step H α μ H1 α1 μ1 → Stor (CvX X T) H1 α1 μ1 → l.length ≤ sizeLine → Yields (CvX X T) J l H1 (Own α1 μ1) → R' J H1
          | .er x μ1 => ∀ cls d H1 α1, Step H α μ H1 α1 μ1 → Stor (CvX X T) H1 α1 μ1 → RpX (CvX X T) H1 cls d x → E cls d H1
          | .no => False) := q
        by_cases hl : b.length ≤ LIM
        · rw [show items (.str b) = some (charsOf b) from if_pos hl] at q
          exact ⟨b, rfl, q _ H1 α1 st S1 (by rw [charsOf, List.length_map, Array.length_toList]; exact lim_line hl) (yields_str b)⟩
        · rw [show items (.str b) = none from if_neg hl] at q
          exact q.elim
      | dict b => exact q.elim
theorem di_range1 {p : Pos} (ha : DE X T E a f) (hm : X.mg "range" = none) (hg : Gl X "range" := by rfl) (hs : starEach [a] X.env = [(false, eval a X.env)] := by rfl) : DI X T E tg (.Call (.Name "range" p) [a] [] pos) (iRange1 f) :=
  pi_imp (pi_range1 hg hm (pa_cons ha pa_nil hs) hs) fun σ H R ⟨ρ, α, μ, S, sl, q⟩ => tD_bindI S sl q fun v w H1 α1 μ1 st S1 sl1 r q1 => by
    split at q1
    · rename_i l μ2 e
      split at e
      · rename_i b
        split at e
        · rename_i hb
          cases e
          have hv : v = .int b := RpT.int (.inl r)
          subst hv
          have hL : (LIM : Int) = 1000000 := rfl
          refine ⟨b, rfl, by omega, by omega, ?_⟩
          have y := yields_range (C := CvX X T) (H := H1) (M := Own α1 μ1) 0 b
          have z := q1 _ H1 α1 (.refl _ _ _) S1 (by rw [rangeD_len]; exact Nat.le_trans (show (b - 0).toNat ≤ LIM by unfold LIM; omega) (by decide)) y
          have e0 : (b - 0).toNat = b.toNat := by rw [Int.sub_zero]
          rw [e0] at z
          exact z
        · cases e
      · cases e
    · rename_i x μ2 e
      split at e
      · split at e <;> cases e
      · cases e
    · exact q1.elim
theorem di_range2 {p : Pos} (ha : DE X T E a f) (hb : DE X T E b g) (hm : X.mg "range" = none) (hg : Gl X "range" := by rfl) (hs : starEach [a, b] X.env = [(false, eval a X.env), (false, eval b X.env)] := by rfl) (hs2 : starEach [b] X.env = [(false, eval b X.env)] := by rfl) : DI X T E tg (.Call (.Name "range" p) [a, b] [] pos) (iRange2 f g) :=
  pi_imp (pi_range2 hg hm (pa_cons ha (pa_cons hb pa_nil hs2) (by rw [hs, hs2])) hs hs2) fun σ H R ⟨ρ, α, μ, S, sl, q⟩ => tD_bindI S sl q fun v w H1 α1 μ1 st S1 sl1 r q1 => tD_bindI S1 sl1 q1 fun v2 w2 H2 α2 μ2 st2 S2 sl2 r2 q2 => by
    split at q2
    · rename_i l μ3 e
      split at e
      · rename_i i k
        split at e
        · rename_i hb
          cases e
          have hv : v = .int i := RpT.int (.inl r)
          have hv2 : v2 = .int k := RpT.int (.inl r2)
          subst hv hv2
          have hL : (LIM : Int) = 1000000 := rfl
          refine ⟨i, k, rfl, by omega, ?_⟩
          exact q2 _ H2 α2 (.refl _ _ _) S2 (by rw [rangeD_len]; exact Nat.le_trans (show (k - i).toNat ≤ 2 * LIM by unfold LIM; omega) (by decide)) (yields_range (C := CvX X T) i k)
        · cases e
      · cases e
    · rename_i x μ3 e
      split at e
      · split at e <;> cases e
      · cases e
    · exact q2.elim
/-! ### for -/
theorem ds_for {t : TF} {it : IF} {ks : List Nat} (ck : CK X E j) (hp : PassesOwn (model X.prog X.w) X.A X.env X.xe) (hi : DI X T E tg a it) (hg : DG X T tg t ks) (hb : DSs X T E body F) (hs : ∀ x, foldedSetIterable a X.env x = pure x := by intro _; rfl) :
    DS X T E (.For tg a body [] pos) (sFor t it F) :=
  ps_imp (ps_for hp ck.calm hi hg hb hs) fun D σ H ⟨ρ, α, μ, S, sl, q⟩ => by
    refine ⟨ρ, α, μ, S, sl, ?_⟩
    unfold sFor at q
    cases e : it ρ μ with
    | no => rw [e] at q; exact q
    | er x μ1 => rw [e] at q; exact q
    | ok l μ1 =>
      rw [e, R.bindS_ok] at q
      intro J H1 α1 st1 S1 hl y
      refine ⟨fun i m σ2 H2 => m = l.length - i ∧ i ≤ l.length ∧ ∃ ρ2 α2 μ2, Step H1 α1 μ1 H2 α2 μ2 ∧ Stor (CvX X T) H2 α2 μ2 ∧ Sl (CvX X T) H2 α2 μ2 σ2 ρ2 ∧ QS (CvX X T) E D H2 α2 μ2 (forL t F (l.drop i) ρ2 μ2),
        ⟨l.length, rfl, Nat.zero_le _, ρ, α1, μ1, .refl _ _ _, S1, sl.step st1, QS.step q st1⟩, ?_⟩
      rintro i m σ2 H2 ⟨rfl, hi, ρ2, α2, μ2, st2, S2, sl2, q2⟩
      obtain ⟨yg, ys⟩ := y i H2 (Own α2 μ2) st2.ext fun _ h => S2.own_ne h
      by_cases hlt : i < l.length
      · obtain ⟨d, hd⟩ : ∃ d, l[i]? = some d := ⟨l[i], List.getElem?_eq_getElem hlt⟩
        have ed : l.drop i = d :: l.drop (i + 1) := by
          rw [List.drop_eq_getElem_cons hlt]
          congr 1
          rw [List.getElem?_eq_getElem hlt] at hd
          exact Option.some.inj hd
        rw [ed] at q2
        obtain ⟨go, yl⟩ := yg d hd
        refine .inr ⟨go, fun σ' H' => l.length - (i + 1) = l.length - (i + 1) ∧ i + 1 ≤ l.length ∧ ∃ ρ2 α2 μ2, Step H1 α1 μ1 H' α2 μ2 ∧ Stor (CvX X T) H' α2 μ2 ∧ Sl (CvX X T) H' α2 μ2 σ' ρ2 ∧ QS (CvX X T) E D H' α2 μ2 (forL t F (l.drop (i + 1)) ρ2 μ2),
          fun σ' H' n => ⟨_, by omega, n⟩, fun x H' yy => ?_⟩
        obtain ⟨sm3, r3⟩ := yl x H' yy
        have st3 := Same.step S2 sm3
        have S3 := S2.same sm3
        have q3 := QS.step q2 st3
        unfold forL at q3
        cases et : t d ρ2 with
        | none => rw [et] at q3; exact q3.elim
        | some ρ3 =>
          rw [et] at q3
          refine ⟨ρ2, α2, μ2, d, ρ3, S3, sl2.step st3, r3, et, fun σ3 _ sl3 => ⟨ρ3, α2, μ2, S3, sl3, ?_⟩⟩
          dsimp only at q3
          cases eb : F ρ3 μ2 with
          | nx ρ4 μ4 =>
            rw [eb] at q3
            exact fun σ' H5 α5 s S5 sl5 => ⟨rfl, hlt, ρ4, α5, μ4, (st2.trans st3).trans s, S5, sl5, QS.step (r := forL t F (l.drop (i + 1)) ρ4 μ4) q3 s⟩
          | ct ρ4 μ4 =>
            rw [eb] at q3
            exact fun σ' H5 α5 s S5 sl5 => ⟨rfl, hlt, ρ4, α5, μ4, (st2.trans st3).trans s, S5, sl5, QS.step (r := forL t F (l.drop (i + 1)) ρ4 μ4) q3 s⟩
          | bk ρ4 μ4 => rw [eb] at q3; exact q3
          | rt w μ4 => rw [eb] at q3; exact q3
          | er x μ4 => rw [eb] at q3; exact q3
          | no => rw [eb] at q3; exact q3
      · have e0 : l.drop i = [] := List.drop_eq_nil_of_le (by omega)
        rw [e0] at q2
        exact .inl ⟨ys (by omega), QS.nx S2 sl2 q2⟩
/-! ### while -/
theorem ds_while {n : Nat} (hp : PassesOwn (model X.prog X.w) X.A X.env X.xe) (hc : DT X T E c f) (hb : DSs X T E body F) : DS X T E (.While c body [] pos) (sWhile n f F) :=
  ps_imp (ps_while hp hc hb) fun D σ H ⟨ρ, α, μ, S, sl, q⟩ => by
    refine ⟨fun m σ2 H2 => ∃ ρ2 α2 μ2, Stor (CvX X T) H2 α2 μ2 ∧ Sl (CvX X T) H2 α2 μ2 σ2 ρ2 ∧ QS (CvX X T) E D H2 α2 μ2 (whileN f F m ρ2 μ2), ⟨n, ρ, α, μ, S, sl, q⟩, ?_⟩
    rintro m σ2 H2 ⟨ρ2, α2, μ2, S2, sl2, q2⟩
    cases m with
    | zero => exact q2.elim
    | succ m =>
      refine tD_testS S2 sl2 q2 fun b H3 α3 μ3 st3 S3 sl3 q3 => ⟨b, rfl, ?_⟩
      cases b with
      | false => rw [if_neg Bool.false_ne_true] at q3 ⊢; exact QS.nx S3 sl3 q3
      | true =>
        rw [if_pos rfl] at q3 ⊢
        refine ⟨fun σ' H' => ∃ ρ2 α2 μ2, Stor (CvX X T) H' α2 μ2 ∧ Sl (CvX X T) H' α2 μ2 σ' ρ2 ∧ QS (CvX X T) E D H' α2 μ2 (whileN f F m ρ2 μ2), fun σ' H' z => ⟨m, Nat.lt_succ_self m, z⟩, ρ2, α3, μ3, S3, sl3, ?_⟩
        cases eb : F ρ2 μ3 with
        | nx ρ4 μ4 => rw [eb] at q3; exact fun σ' H5 α5 s S5 sl5 => ⟨ρ4, α5, μ4, S5, sl5, QS.step (r := whileN f F m ρ4 μ4) q3 s⟩
        | ct ρ4 μ4 => rw [eb] at q3; exact fun σ' H5 α5 s S5 sl5 => ⟨ρ4, α5, μ4, S5, sl5, QS.step (r := whileN f F m ρ4 μ4) q3 s⟩
        | bk ρ4 μ4 => rw [eb] at q3; exact q3
        | rt w μ4 => rw [eb] at q3; exact q3
        | er x μ4 => rw [eb] at q3; exact q3
        | no => rw [eb] at q3; exact q3
/-! ### comprehensions -/
theorem CK.blk (ck : CK X E j) (s : Shared) (H : Hp) (scope : Scope) (cenv : PySem.Env) (fp : List Addr) : CK (X.blk s H scope cenv fp) E0 j where
  calm := ck.calm
  nd := ck.nd
  room := ck.room
  takes := fun _ _ x => by
    obtain ⟨_, _, _, _, _, _, _, _, _, _, _, _, _, _, _, _, z⟩ := x
    exact z.elim
structure DC (X : Cx) (T : List (Addr × Str)) (ifs : List Expr) (f : EF) : Prop where
  pts : PTs X ifs (fun σ H Q => tD (CvX X T) E0 f σ H fun v H1 => ∃ b, v = .bl b ∧ Q b H1)
theorem pts_imp {ifs : List Expr} {t t' : TT} (h : PTs X ifs t) (i : ∀ σ H Q, t' σ H Q → t σ H Q) : PTs X ifs t' := ⟨fun pins s σ H Q I q => h.run pins s σ H Q I (i _ _ _ q)⟩
theorem dc_nil : DC X T [] eYes := ⟨pts_imp pts_nil fun σ H Q ⟨ρ, α, μ, S, sl, q⟩ => by
  obtain ⟨b, e, q⟩ := PQ.bl S q
  cases e
  exact q⟩
theorem dc_one (h : DT X T E0 c f) : DC X T [c] f := ⟨pts_one h⟩
end
section
variable {C : Cv} {H : Hp} {α : Al} {μ : Sto}
/-- a new list that nobody knows of yet -/
def Al.hide (α : Al) (p : Addr) : Al := ⟨α.own, p :: α.hid⟩
theorem own_hide {p a : Addr} : Own (α.hide p) μ a ↔ Own α μ a ∨ a = p := by
  constructor
  · rintro (h | h)
    · exact .inl (.inl h)
    · rcases List.mem_cons.mp h with h | h
      · exact .inr h
      · exact .inl (.inr h)
  · rintro ((h | h) | rfl)
    · exact .inl h
    · exact .inr (List.mem_cons_of_mem _ h)
    · exact .inr List.mem_cons_self
theorem ext_hide (S : Stor C H α μ) {p : Addr} {o : HO} (np : H p = none) : Ext H (Own α μ) (upd H p o) (Own (α.hide p) μ) := by
  refine ⟨fun b u h n _ => ⟨same_upd np b u h, fun z => ?_⟩, fun b xs h => same_upd np b _ h, fun b o u h => same_upd np b _ h⟩
  rcases own_hide.mp z with z | z
  · exact n z
  · rw [z, np] at h; cases h
theorem CellOk.ext {H' : Hp} {α' : Al} {μ' : Sto} {a : Addr} {c : Cell} (h : CellOk C H α μ a c) (e : Ext H (Own α μ) H' (Own α' μ')) (ha : H' a = H a) : CellOk C H' α' μ' a c := by
  cases c with
  | lst l => obtain ⟨ys, e1, e2⟩ := h; exact ⟨ys, ha.trans e1, e2.ext e⟩
  | ins c fs => obtain ⟨A, dx, gs, e1, e2, e3, e4⟩ := h; exact ⟨A, dx, gs, e1, ha.trans e2, e3, e4.ext e⟩
theorem stor_hide (S : Stor C H α μ) {p : Addr} {xs : List V} (np : H p = none) : Stor C (upd H p (.lst xs)) (α.hide p) μ := by
  have fresh : ∀ a ∈ α.own ++ α.hid, a ≠ p := fun a ha e => by
    obtain ⟨o, q, _⟩ := S.there a ha
    rw [e, np] at q; cases q
  refine ⟨S.len, ?_, fun a h => ?_, fun k c h => ?_, S.tabs.ext (same_upd np)⟩
  · show (α.own ++ p :: α.hid).Nodup
    rw [List.Perm.nodup_iff List.perm_middle]
    exact List.nodup_cons.mpr ⟨fun z => fresh p z rfl, S.nd⟩
  · have h : a ∈ α.own ++ p :: α.hid := h
    by_cases e : a = p
    · subst e
      exact ⟨_, upd_same, fun _ z => by cases z⟩
    · have hm : a ∈ α.own ++ α.hid := by
        rcases List.mem_append.mp h with h | h
        · exact List.mem_append_left _ h
        · rcases List.mem_cons.mp h with h | h
          · exact absurd h e
          · exact List.mem_append_right _ h
      obtain ⟨o, q, n⟩ := S.there a hm
      exact ⟨o, same_upd np _ _ q, n⟩
  · obtain ⟨a, h1, h2⟩ := S.cell k c h
    refine ⟨a, h1, h2.ext (ext_hide S np) ?_⟩
    rw [upd_ne (fresh a (List.mem_append_left _ (List.mem_of_getElem? h1)))]
/-- the hidden list is written -/
theorem stor_write {p : Addr} {xs ys : List V} (S : Stor C H α μ) (hm : p ∈ α.hid) (hp : H p = some (.lst xs)) : Ext H (Own α μ) (upd H p (.lst ys)) (Own α μ) ∧ Stor C (upd H p (.lst ys)) α μ := by
  have op : Own α μ p := .inr hm
  have e : Ext H (Own α μ) (upd H p (.lst ys)) (Own α μ) := by
    refine ⟨fun b o h n _ => ⟨?_, n⟩, fun b zs h => ?_, fun b o u h => ?_⟩
    · rw [upd_ne (fun e => n (by rw [e]; exact op))]; exact h
    · rw [upd_ne (fun e => by rw [e, hp] at h; cases h)]; exact h
    · rw [upd_ne (fun e => by rw [e, hp] at h; cases h)]; exact h
  refine ⟨e, S.len, S.nd, fun a h => ?_, fun k c h => ?_, ?_⟩
  · by_cases z : a = p
    · rw [z]; exact ⟨_, upd_same, fun _ z => by cases z⟩
    · rw [upd_ne z]; exact S.there a h
  · obtain ⟨a, h1, h2⟩ := S.cell k c h
    refine ⟨a, h1, h2.ext e ?_⟩
    rw [upd_ne (fun z => S.nohid h1 (by rw [z]; exact hm))]
  · intro q hq
    obtain ⟨ps, h1, h2, h3⟩ := S.tabs q hq
    refine ⟨ps, by rw [upd_ne (fun e => by rw [e, hp] at h1; cases h1)]; exact h1, h2, fun pos cv hc => ?_⟩
    obtain ⟨c, e1, e2⟩ := h3 pos cv hc
    refine ⟨c, e1, ?_⟩
    rw [upd_ne (fun e => by rw [e, hp] at e2; cases e2)]
    exact e2
end
section
variable {X : Cx} {T : List (Addr × Str)} {E : XK} {j : Nat} {pos : Pos} {tg a b c : Expr} {f g h : EF}
theorem wipe_wipe (σ : L2.St) (vs : List Nat) : L2.wipe (L2.wipe σ vs) vs = L2.wipe σ vs := by
  refine List.ext_getElem? fun k => ?_
  rw [wipe_at, wipe_at]
  by_cases hk : k ∈ vs
  · rw [if_pos hk, if_pos hk, Option.map_map]
    rfl
  · rw [if_neg hk, if_neg hk]
theorem ext_unhide {P : Addr} {H' : Hp} {μ' : Sto} {α' : Al} : Ext H' (Own (α'.hide P) μ') H' (Own α' μ') :=
  ⟨fun b o h n _ => ⟨h, fun z => n (own_hide.mpr (.inl z))⟩, fun _ _ h => h, fun _ _ _ h => h⟩
theorem nodup_hide {C : Cv} {P : Addr} {H' : Hp} {μ' : Sto} {α' : Al} (S : Stor C H' (α'.hide P) μ') : P ∉ α'.own ++ α'.hid ∧ (α'.own ++ α'.hid).Nodup := by
  have h : (α'.own ++ P :: α'.hid).Nodup := S.nd
  rw [List.Perm.nodup_iff List.perm_middle] at h
  exact List.nodup_cons.mp h
theorem stor_unhide {C : Cv} {P : Addr} {H' : Hp} {μ' : Sto} {α' : Al} (S : Stor C H' (α'.hide P) μ') : Stor C H' α' μ' := by
  refine ⟨S.len, (nodup_hide S).2, fun a h => S.there a ?_, fun k c h => ?_, S.tabs⟩
  · show a ∈ α'.own ++ P :: α'.hid
    rcases List.mem_append.mp h with h | h
    · exact List.mem_append_left _ h
    · exact List.mem_append_right _ (List.mem_cons_of_mem _ h)
  · obtain ⟨a, h1, h2⟩ := S.cell k c h
    exact ⟨a, h1, h2.ext ext_unhide rfl⟩
theorem hide_of {P : Addr} {α α' : Al} (h : α'.hid = (α.hide P).hid) : α' = Al.hide ⟨α'.own, α.hid⟩ P := by
  obtain ⟨o, h'⟩ := α'
  have h : h' = P :: α.hid := h
  subst h
  rfl
/-- what holds at turn i of a comprehension: the new list at P holds acc -/
structure LcInv (C : Cv) (P : Addr) (H1 : Hp) (α1 : Al) (μ1 : Sto) (n : Nat) (accD : List PyData) (H2 : Hp) (α2 : Al) (μ2 : Sto) (acc : List V) : Prop where
  stor : Stor C H2 (α2.hide P) μ2
  ext : Ext H1 (Own α1 μ1) H2 (Own (α2.hide P) μ2)
  pre : ∀ (k : Nat) (a : Addr), α1.own[k]? = some a → α2.own[k]? = some a
  hid : α2.hid = α1.hid
  keep : ∀ b ∈ α1.hid, H2 b = H1 b
  list : H2 P = some (.lst acc)
  len : acc.length ≤ n
  rep : RpAll C.K H2 (Own (α2.hide P) μ2) acc accD
theorem LcInv.st {C : Cv} {P : Addr} {H1 H2 : Hp} {α1 α2 : Al} {μ1 μ2 : Sto} {n : Nat} {accD : List PyData} {acc : List V} (I : LcInv C P H1 α1 μ1 n accD H2 α2 μ2 acc) : Step H1 α1 μ1 H2 α2 μ2 :=
  ⟨I.ext.trans ext_unhide, I.pre, I.hid, I.keep⟩
/-- a step of the block -/
theorem LcInv.go {C : Cv} {P : Addr} {H1 H2 H3 : Hp} {α1 α2 α3 : Al} {μ1 μ2 μ3 : Sto} {n : Nat} {accD : List PyData} {acc : List V} (I : LcInv C P H1 α1 μ1 n accD H2 α2 μ2 acc) (s : Step H2 (α2.hide P) μ2 H3 α3 μ3) (S : Stor C H3 α3 μ3) :
    ∃ α4, α3 = α4.hide P ∧ LcInv C P H1 α1 μ1 n accD H3 α4 μ3 acc := by
  have e := hide_of (α := α2) s.hid
  refine ⟨_, e, by rw [← e]; exact S, by rw [← e]; exact I.ext.trans s.ext, fun k a h => s.pre k a (I.pre k a h), I.hid, fun b hb => ?_, ?_, I.len, by rw [← e]; exact I.rep.ext s.ext⟩
  · exact (s.keep b (List.mem_cons_of_mem _ (by rw [I.hid]; exact hb))).trans (I.keep b hb)
  · exact (s.keep P List.mem_cons_self).trans I.list
theorem LcInv.put {C : Cv} {P : Addr} {H1 H2 : Hp} {α1 α2 : Al} {μ1 μ2 : Sto} {n : Nat} {accD : List PyData} {acc : List V} {v : V} {d : PyData} (I : LcInv C P H1 α1 μ1 n accD H2 α2 μ2 acc) (np : H1 P = none) (S1 : Stor C H1 α1 μ1) (r : Rp C.K H2 (Own (α2.hide P) μ2) v d) :
    LcInv C P H1 α1 μ1 (n + 1) (accD ++ [d]) (upd H2 P (.lst (acc ++ [v]))) α2 μ2 (acc ++ [v]) := by
  obtain ⟨e, S⟩ := stor_write (ys := acc ++ [v]) I.stor List.mem_cons_self I.list
  refine ⟨S, I.ext.trans e, I.pre, I.hid, fun b hb => ?_, upd_same, by rw [List.length_append]; exact Nat.succ_le_succ I.len, (I.rep.append (.cons r .nil)).ext e⟩
  rw [upd_ne (fun z => ?_)]
  · exact I.keep b hb
  · obtain ⟨o, q, _⟩ := S1.there b (List.mem_append_right _ hb)
    rw [z, np] at q; cases q
/-- the reading of a comprehension -/
theorem lc_rd {it : IF} {t : TF} {vs ks : List Nat} {σ : L2.St} {H : Hp} {Q : VK} (hw : ∀ k ∈ ks, k ∈ vs) (q : tD (CvX X T) E (eLc vs t it f g) σ H Q) :
    tLc (tI (CvX X T) E it) (tG (CvX X T) t ks) (fun σ H Q => tD (CvX X T) E0 f σ H fun v H1 => ∃ b, v = .bl b ∧ Q b H1) (tD (CvX X T) E0 g) vs σ H Q := by
  obtain ⟨ρ, α, μ, S, sl, q⟩ := q
  refine ⟨ρ, α, μ, S, sl, ?_⟩
  unfold eLc at q
  cases e : it ρ μ with
  | no => rw [e] at q; exact q.elim
  | er x μ1 => rw [e] at q; exact q
  | ok l μ1 =>
    rw [e, Mi.R.bind_ok] at q
    intro J H1 α1 st1 S1 hl y P np
    have I0 : LcInv (CvX X T) P H1 α1 μ1 0 [] (upd H1 P (.lst [])) α1 μ1 [] :=
      ⟨stor_hide S1 np, ext_hide S1 np, fun _ _ h => h, rfl, (Same.step S1 (same_upd np)).keep, upd_same, Nat.le_refl _, .nil⟩
    refine ⟨fun i m H2 => m = l.length - i ∧ i ≤ l.length ∧ ∃ α2 μ2 acc accD, LcInv (CvX X T) P H1 α1 μ1 i accD H2 α2 μ2 acc ∧ PQ (CvX X T) E Q H1 α1 μ1 (lcL t f g (wipeE ρ vs) (l.drop i) accD μ2),
      ⟨l.length, rfl, Nat.zero_le _, α1, μ1, [], [], I0, PQ.step q st1⟩, ?_⟩
    rintro i m H2 ⟨rfl, hi, α2, μ2, acc, accD, I2, q2⟩
    obtain ⟨yg, ys⟩ := y i H2 (Own (α2.hide P) μ2) I2.ext fun _ h => I2.stor.own_ne h
    by_cases hlt : i < l.length
    · obtain ⟨d, hd⟩ : ∃ d, l[i]? = some d := ⟨l[i], List.getElem?_eq_getElem hlt⟩
      have ed : l.drop i = d :: l.drop (i + 1) := by
        rw [List.drop_eq_getElem_cons hlt]
        congr 1
        rw [List.getElem?_eq_getElem hlt] at hd
        exact Option.some.inj hd
      rw [ed] at q2
      obtain ⟨go, yl⟩ := yg d hd
      refine .inr ⟨go, fun H3 => i + 1 ≤ l.length ∧ ∃ α2 μ2 acc accD, LcInv (CvX X T) P H1 α1 μ1 (i + 1) accD H3 α2 μ2 acc ∧ PQ (CvX X T) E Q H1 α1 μ1 (lcL t f g (wipeE ρ vs) (l.drop (i + 1)) accD μ2), fun H3 n => ⟨_, by omega, rfl, n⟩, fun x H3 yy => ?_⟩
      obtain ⟨sm3, r3⟩ := yl x H3 yy
      obtain ⟨α3, ea, I3⟩ := I2.go (Same.step I2.stor sm3) (I2.stor.same sm3)
      have ea2 : α3 = α2 := by
        obtain ⟨o2, h2⟩ := α2
        obtain ⟨o3, h3⟩ := α3
        injection ea with e1 e2
        injection e2 with _ e3
        subst e1 e3
        rfl
      subst ea2
      have sl3 : Sl (CvX X T) H3 (α3.hide P) μ2 (L2.wipe σ vs) (wipeE ρ vs) := by
        have z := (sl.step st1).wipe vs
        refine ⟨z.len, fun i w h => ?_⟩
        obtain ⟨v, h1, h2⟩ := z.at_ i w h
        refine ⟨v, h1, ?_⟩
        cases w with
        | d d => exact Rp.ext I3.ext h2
        | m k => obtain ⟨a, h3, h4⟩ := h2; exact ⟨a, I3.pre _ _ h3, h4⟩
        | f x => exact h2
        | x k => exact h2
        | e c y => exact RpW.exte I3.ext h2
        | es l => exact RpW.extes I3.ext h2
      unfold lcL at q2
      cases et : t d (wipeE ρ vs) with
      | none => rw [et] at q2; exact q2.elim
      | some ρ3 =>
        rw [et] at q2
        refine ⟨wipeE ρ vs, α3.hide P, μ2, d, ρ3, I3.stor, sl3, r3, et, fun σ3 o3 sl4 => ⟨(o3.wipe hw).trans (wipe_wipe σ vs), ρ3, α3.hide P, μ2, I3.stor, sl4, ?_⟩⟩
        dsimp only at q2
        cases ef : f ρ3 μ2 with
        | no => rw [ef] at q2; exact q2.elim
        | er x μ3 => rw [ef] at q2; exact q2.elim
        | ok w μ3 =>
          rw [ef] at q2
          intro v4 H4 α4 st4 S4 r4
          obtain ⟨α5, e5, I5⟩ := I3.go st4 S4
          subst e5
          split at q2
          · rename_i μ3' e3
            cases e3
            cases r4
            refine ⟨true, rfl, ?_⟩
            show if true = true then _ else _
            rw [if_pos rfl]
            refine ⟨ρ3, α5.hide P, μ3, S4, sl4.step st4, ?_⟩
            split at q2
            · rename_i z μ6 eg
              rw [eg]
              intro v6 H6 α6 st6 S6 r6
              obtain ⟨α7, e7, I7⟩ := I5.go st6 S6
              subst e7
              exact ⟨acc, I7.list, Nat.lt_of_le_of_lt I7.len (Nat.lt_of_lt_of_le hlt hl), hlt, α7, μ6, _, _, I7.put np S1 r6, q2⟩
            · exact q2.elim
          · rename_i μ3' e3
            cases e3
            cases r4
            refine ⟨false, rfl, ?_⟩
            show if false = true then _ else _
            rw [if_neg Bool.false_ne_true]
            exact ⟨hlt, α5, μ3, acc, accD, ⟨I5.stor, I5.ext, I5.pre, I5.hid, I5.keep, I5.list, Nat.le_succ_of_le I5.len, I5.rep⟩, q2⟩
          · exact q2.elim
    · have e0 : l.drop i = [] := List.drop_eq_nil_of_le (by omega)
      rw [e0] at q2
      refine .inl ⟨ys (by omega), q2 _ H2 α2 I2.st (stor_unhide I2.stor) (.lst (.inl I2.list) (fun z => ?_) (I2.rep.ext ext_unhide))⟩
      have hn := (nodup_hide I2.stor).1
      rcases z with ⟨k, c, h1, h2⟩ | z
      · exact hn (List.mem_append_left _ (List.mem_of_getElem? h1))
      · exact hn (List.mem_append_right _ z)
theorem de_lc {it : IF} {t : TF} {ks : List Nat} {elt iter : Expr} {ifs : List Expr} {scope : Scope} {own : List (Str × Nat)} (ck : CK X E j) (hi : DI X T E tg iter it) (ok : BlkOk X.N X.env.scope scope own)
    (hg : ∀ (s : Shared) (H : Hp) (D : Addr) (cl : List (Str × Addr)) (fp : List Addr), DG (X.blk s H scope (compEnvC scope cl D X.env) fp) T tg t ks)
    (ht : ∀ (s : Shared) (H : Hp) (D : Addr) (cl : List (Str × Addr)) (fp : List Addr), CK (X.blk s H scope (compEnvC scope cl D X.env) fp) E0 j → DC (X.blk s H scope (compEnvC scope cl D X.env) fp) T ifs f)
    (he : ∀ (s : Shared) (H : Hp) (D : Addr) (cl : List (Str × Addr)) (fp : List Addr), CK (X.blk s H scope (compEnvC scope cl D X.env) fp) E0 j → DE (X.blk s H scope (compEnvC scope cl D X.env) fp) T E0 elt g)
    (hw : ∀ k ∈ ks, k ∈ own.map (·.2) := by decide) (hs : ∀ x, foldedSetIterable iter X.env x = pure x := by intro _; rfl) :
    DE X T E (.ListComp elt [⟨tg, iter, ifs, 0⟩] scope pos) (eLc (own.map (·.2)) t it f g) :=
  pe_imp (pe_lc (g := tG (CvX X T) t ks) (tt := fun σ H Q => tD (CvX X T) E0 f σ H fun v H1 => ∃ b, v = .bl b ∧ Q b H1) (te := tD (CvX X T) E0 g) ck.calm ck.nd hi ok hg (fun s H D cl fp => (ht s H D cl fp (ck.blk s H scope _ fp)).pts) (fun s H D cl fp => he s H D cl fp (ck.blk s H scope _ fp)) hs) fun σ H Q q => lc_rd hw q
/-- y = [..] on one line -/
theorem ds_setLc (i : Nat) {y : Str} {py : Pos} {it : IF} {t : TF} {ks : List Nat} {elt iter : Expr} {ifs : List Expr} {scope : Scope} {own : List (Str × Nat)} {spos : Pos} (ck : CK X E j) (hi : DI X T E tg iter it) (ok : BlkOk X.N X.env.scope scope own)
    (hg : ∀ (s : Shared) (H : Hp) (D : Addr) (cl : List (Str × Addr)) (fp : List Addr), DG (X.blk s H scope (compEnvC scope cl D X.env) fp) T tg t ks)
    (ht : ∀ (s : Shared) (H : Hp) (D : Addr) (cl : List (Str × Addr)) (fp : List Addr), CK (X.blk s H scope (compEnvC scope cl D X.env) fp) E0 j → DC (X.blk s H scope (compEnvC scope cl D X.env) fp) T ifs f)
    (he : ∀ (s : Shared) (H : Hp) (D : Addr) (cl : List (Str × Addr)) (fp : List Addr), CK (X.blk s H scope (compEnvC scope cl D X.env) fp) E0 j → DE (X.blk s H scope (compEnvC scope cl D X.env) fp) T E0 elt g)
    (hy : X.N[i]? = some y := by rfl) (hyl : X.env.scope.names.lookup y = some .local := by rfl) (hsw : swapsWith (.ListComp elt [⟨tg, iter, ifs, 0⟩] scope pos) (some (.Name y py)) spos.line X.env = pure true := by exact sw_true rfl rfl rfl (by decide +kernel))
    (hw : ∀ k ∈ ks, k ∈ own.map (·.2) := by decide) (hs : ∀ x, foldedSetIterable iter X.env x = pure x := by intro _; rfl) :
    DS X T E (.Assign [.Name y py] (.ListComp elt [⟨tg, iter, ifs, 0⟩] scope pos) spos) (sAsg i (eLc (own.map (·.2)) t it f g)) :=
  ps_imp (ps_setLc (g := tG (CvX X T) t ks) (tt := fun σ H Q => tD (CvX X T) E0 f σ H fun v H1 => ∃ b, v = .bl b ∧ Q b H1) (te := tD (CvX X T) E0 g) ck.calm ck.nd hy hyl hsw hi ok hg (fun s H D cl fp => (ht s H D cl fp (ck.blk s H scope _ fp)).pts) (fun s H D cl fp => he s H D cl fp (ck.blk s H scope _ fp)) hs) fun D σ H ⟨ρ, α, μ, S, sl, q⟩ => by
    refine lc_rd (E := E) hw ⟨ρ, α, μ, S, sl, ?_⟩
    cases e : eLc (own.map (·.2)) t it f g ρ μ with
    | ok w μ1 =>
      unfold sAsg at q
      rw [e, Mi.R.bindS_ok] at q
      exact fun v H1 α1 st S1 r => q _ H1 α1 st S1 ((sl.step st).set r i)
    | er x μ1 => unfold sAsg at q; rw [e] at q; exact q
    | no => unfold sAsg at q; rw [e] at q; exact q
end
/-! ### raise; a def's body -/
section
variable {X : Cx} {T : List (Addr × Str)} {E : XK} {j : Nat} {pos : Pos}
/-- an own class over ValueError without an __init__ of its own -/
structure OwnEx (K : PySem.W.Frag) (mg : Str → Option Value) (x : Str) : Prop where
  ex : ∃ A, mg x = some (.ref A) ∧ PySem.W.keepIn K (.ref A) = true ∧ PySem.W.excIn K A [.type "ValueError", .type "Exception", .type "BaseException", .type "object"] "ValueError.__new__" = true ∧
    PySem.W.subIn K (.ref A) (.type "BaseException") = some true ∧ PySem.W.typeIn K (.ref A) = some (.type "type")
theorem ds_raise {x m : Str} {j' : Nat} {p p2 p3 : Pos} (ck : CK X E j) (hx : OwnEx X.K X.mg x) (hg : Gl X x := by rfl) (hdb : (x == ("__debug__" : Str)) = false := by decide) :
    DS X T E (.Raise (some (.Call (.Name x p) [.Constant (.str m) j' p2] [] p3)) none pos) (sRaise x) := by
  obtain ⟨A, gC, kC, xC, bC, tC⟩ := hx.ex
  exact ps_imp (L2N.ps_raise ck.calm ck.takes (L2N.pmk_own PySem.F.excBase_ValueError xC gC kC (raises_own bC tC) hg hdb)) fun D σ H ⟨ρ, α, μ, S, sl, q⟩ => q _ _ H α (.refl _ _ _) S ⟨gC, rfl⟩
end
section
variable {P : Program} {w : World} {K : PySem.W.Frag} {mg : Str → Option Value} {base : Heap} {T : List (Addr × Str)}
theorem Sl.start {C : Cv} {H : Hp} {α : Al} {μ : Sto} : ∀ {vs : List V} {ws : List W}, RpWs C H α μ vs ws → ∀ m, (∀ (i : Nat) (w : W), (ws.map some ++ List.replicate m (none : Option W))[i]? = some (some w) → ∃ v, (vs.map some ++ List.replicate m (none : Option V))[i]? = some (some v) ∧ RpW C H α μ v w)
  | _, _, .nil, m => fun i w h => by
    have h : (List.replicate m (none : Option W))[i]? = some (some w) := h
    have z := List.mem_of_getElem? h
    rw [List.mem_replicate] at z
    cases z.2
  | _, _, .cons r t, m => fun i w h => by
    cases i with
    | zero =>
      have h : some (some _) = some (some w) := h
      injection h with h
      injection h with h
      subst h
      exact ⟨_, rfl, r⟩
    | succ i => exact Sl.start t m i w (by simpa using h)
/-- what a callee leaves, without its own -/
theorem stor_cut {C : Cv} {H H' : Hp} {α α' : Al} {μ μ' : Sto} {n : Nat} (S : Stor C H α μ) (st : Step H α μ H' α' μ') (S' : Stor C H' α' μ') (hn : μ.length ≤ n) :
    Step H α μ H' ⟨α'.own.take n, α'.hid⟩ (μ'.take n) ∧ Stor C H' ⟨α'.own.take n, α'.hid⟩ (μ'.take n) ∧ Step H' α' μ' H' α' μ' ∧ Ext H' (Own α' μ') H' (Own ⟨α'.own.take n, α'.hid⟩ (μ'.take n)) := by
  have ow : ∀ {a}, Own ⟨α'.own.take n, α'.hid⟩ (μ'.take n) a → Own α' μ' a := fun {a} h => by
    rcases h with ⟨k, c, h1, h2⟩ | h
    · have h1 : (α'.own.take n)[k]? = some a := h1
      rw [List.getElem?_take] at h1 h2
      split at h1
      · rename_i hk
        rw [if_pos hk] at h2
        exact .inl ⟨k, c, h1, h2⟩
      · cases h1
    · exact .inr h
  have ex : Ext H' (Own α' μ') H' (Own ⟨α'.own.take n, α'.hid⟩ (μ'.take n)) := ⟨fun b o h m _ => ⟨h, fun z => m (ow z)⟩, fun _ _ h => h, fun _ _ _ h => h⟩
  refine ⟨⟨st.ext.trans ex, fun k a h => ?_, st.hid, st.keep⟩, ⟨?_, ?_, fun a h => S'.there a ?_, fun k c h => ?_, S'.tabs⟩, .refl _ _ _, ex⟩
  · have hk : k < α.own.length := (List.getElem?_eq_some_iff.mp h).1
    have hl := S.len
    show (α'.own.take n)[k]? = some a
    rw [List.getElem?_take, if_pos (by omega)]
    exact st.pre k a h
  · show (α'.own.take n).length = (μ'.take n).length
    rw [List.length_take, List.length_take, S'.len]
  · show (α'.own.take n ++ α'.hid).Nodup
    have h := S'.nd
    rw [List.nodup_append] at h ⊢
    exact ⟨h.1.sublist (List.take_sublist _ _), h.2.1, fun a ha b hb => h.2.2 a (List.mem_of_mem_take ha) b hb⟩
  · have h : a ∈ α'.own.take n ++ α'.hid := h
    rcases List.mem_append.mp h with h | h
    · exact List.mem_append_left _ (List.mem_of_mem_take h)
    · exact List.mem_append_right _ h
  · rw [List.getElem?_take] at h
    split at h
    · rename_i hk
      obtain ⟨a, h1, h2⟩ := S'.cell k c h
      refine ⟨a, ?_, ?_⟩
      · show (α'.own.take n)[k]? = some a
        rw [List.getElem?_take, if_pos hk]
        exact h1
      · exact h2.ext ex rfl
    · cases h
theorem fin_ok {C : Cv} {E : XK} {Q : VK} {D : Ends} {H : Hp} {α : Al} {μ : Sto} {r : RS} (S : Stor C H α μ) (hD : D.nx = (fun _ H' => Q .non H') ∧ D.rt = Q) (q : PQ C E Q H α μ (fin μ.length r)) : QS C E D H α μ r := by
  obtain ⟨h1, h2⟩ := hD
  cases r with
  | nx ρ μ' =>
    intro σ' H' α' st S' _
    rw [h1]
    obtain ⟨s2, S2, _, ex⟩ := stor_cut S st S' (Nat.le_refl _)
    exact q .non H' _ s2 S2 .non
  | bk ρ μ' => exact q.elim
  | ct ρ μ' => exact q.elim
  | no => exact q.elim
  | er x μ' =>
    intro cls d H' α' st S' rx
    obtain ⟨s2, S2, _, ex⟩ := stor_cut S st S' (Nat.le_refl _)
    exact q cls d H' _ s2 S2 rx
  | rt w μ' =>
    intro v H' α' st S' rv
    rw [h2]
    cases w with
    | d d =>
      obtain ⟨s2, S2, _, ex⟩ := stor_cut S st S' (Nat.le_refl _)
      exact q v H' _ s2 S2 (Rp.ext ex rv)
    | f x =>
      obtain ⟨s2, S2, _, ex⟩ := stor_cut S st S' (Nat.le_refl _)
      exact q v H' _ s2 S2 rv
    | e c y =>
      obtain ⟨s2, S2, _, ex⟩ := stor_cut S st S' (Nat.le_refl _)
      exact q v H' _ s2 S2 (RpW.exte ex rv)
    | es l =>
      obtain ⟨s2, S2, _, ex⟩ := stor_cut S st S' (Nat.le_refl _)
      exact q v H' _ s2 S2 (RpW.extes ex rv)
    | x k => exact q.elim
    | m k =>
      obtain ⟨a, ha, rfl⟩ := rv
      have q : PQ C E Q H α μ (if k < μ.length then .ok (.m k) (μ'.take μ.length) else if k = μ.length then .ok (.m k) (μ'.take (μ.length + 1)) else .no) := q
      split at q
      · rename_i hk
        obtain ⟨s2, S2, _, ex⟩ := stor_cut S st S' (Nat.le_refl _)
        refine q _ H' _ s2 S2 ⟨a, ?_, rfl⟩
        show (α'.own.take μ.length)[k]? = some a
        rw [List.getElem?_take, if_pos hk]
        exact ha
      · split at q
        · rename_i hk
          obtain ⟨s2, S2, _, ex⟩ := stor_cut S st S' (Nat.le_succ _)
          refine q _ H' _ s2 S2 ⟨a, ?_, rfl⟩
          show (α'.own.take (μ.length + 1))[k]? = some a
          rw [List.getElem?_take, if_pos (by omega)]
          exact ha
        · exact q.elim
/-- THE RULE: a def whose body does what F says keeps the promise that F makes -/
theorem fn_ok {x : Str} {params : Arguments} {body : List Stmt} {scope : Scope} {dvs : List V} {kws : List (Str × V)} {f : Addr} {fd : FuncData} {N ps : List Str} {k : Nat} {F : SF} (Fu : FunD K x x params body scope dvs kws f fd) (S : FnScope N ps scope)
    (hbody : ∀ (cdv : Value) (A : Around) (outer : List PySem.Env) (s : Shared) (H : Hp) (E : XK), CK (cxOf (L2N.CX P w) P w K mg base N x scope f cdv A outer s H E) E k →
      PassesOwn (model P w) (cxOf (L2N.CX P w) P w K mg base N x scope f cdv A outer s H E).A (cxOf (L2N.CX P w) P w K mg base N x scope f cdv A outer s H E).env (cxOf (L2N.CX P w) P w K mg base N x scope f cdv A outer s H E).xe →
      DSs (cxOf (L2N.CX P w) P w K mg base N x scope f cdv A outer s H E) T E body F) : FnOk P w K mg base (L2N.CX P w) (k + 1) f fd ps (spD ⟨K, mg, T⟩ (fnOf ps.length N.length F)) := by
  refine Fu.ok S (fun vs H Q E h => ?_) fun cdv A outer s H vs Q E hr h => ?_
  · obtain ⟨ws, α, μ, S, rs, q⟩ := h
    unfold fnOf at q
    split at q
    · rename_i hl
      rw [rs.length]
      exact hl
    · exact q.elim
  · obtain ⟨ws, α, μ, St, rs, q⟩ := h
    have tk : L2N.Takes (cxOf (L2N.CX P w) P w K mg base N x scope f cdv A outer s H E) (fun cls d _ H => E cls d H) := L2N.takes_of rfl rfl rfl rfl
    refine ⟨_, hbody cdv A outer s H E ⟨rfl, S.nd, hr, tk⟩ (passes_of rfl), ?_⟩
    unfold fnOf at q
    split at q
    · rename_i hl
      refine ⟨startE N.length ws, α, μ, St, ⟨?_, ?_⟩, fin_ok (D := { nx := fun _ H' => Q .non H', rt := Q }) St ⟨rfl, rfl⟩ q⟩
      · have e := rs.length
        simp only [startE, L2.start, List.length_append, List.length_map, List.length_replicate, e]
      · have e := rs.length
        have z := Sl.start rs (N.length - ws.length)
        unfold startE L2.start
        rw [e]
        exact z
    · exact q.elim
theorem fn_okD {x : Str} {st : Stmt} {N ps : List Str} {k : Nat} {F : SF} (d : DefFact K mg x st ps) (S : FnScope N ps (defScope st))
    (hbody : ∀ (f : Addr) (cdv : Value) (A : Around) (outer : List PySem.Env) (s : Shared) (H : Hp) (E : XK), CK (cxOf (L2N.CX P w) P w K mg base N x (defScope st) f cdv A outer s H E) E k →
      PassesOwn (model P w) (cxOf (L2N.CX P w) P w K mg base N x (defScope st) f cdv A outer s H E).A (cxOf (L2N.CX P w) P w K mg base N x (defScope st) f cdv A outer s H E).env (cxOf (L2N.CX P w) P w K mg base N x (defScope st) f cdv A outer s H E).xe →
      DSs (cxOf (L2N.CX P w) P w K mg base N x (defScope st) f cdv A outer s H E) T E (defBody st) F) : HasFn P w K mg base T (k + 1) x (fnOf ps.length N.length F) := by
  obtain ⟨f, fd, dvs, kws, Fu, hm, hb⟩ := d.ex
  exact ⟨f, fd, ps, [], [], [], _, hm, Fu.kp, hb, .nil, fun _ _ => .nil, fun ws μ => by rw [List.map_nil, List.append_nil], fn_ok Fu S (hbody f)⟩
/-- .. called with less -/
theorem fn_ok1 {x : Str} {st : Stmt} {N ps : List Str} {k : Nat} {F : SF} {dd : List PyData} (d : DefFact1 K mg x st ps dd) (S : FnScope N ps (defScope st))
    (hbody : ∀ (f : Addr) (cdv : Value) (A : Around) (outer : List PySem.Env) (s : Shared) (H : Hp) (E : XK), CK (cxOf (L2N.CX P w) P w K mg base N x (defScope st) f cdv A outer s H E) E k →
      PassesOwn (model P w) (cxOf (L2N.CX P w) P w K mg base N x (defScope st) f cdv A outer s H E).A (cxOf (L2N.CX P w) P w K mg base N x (defScope st) f cdv A outer s H E).env (cxOf (L2N.CX P w) P w K mg base N x (defScope st) f cdv A outer s H E).xe →
      DSs (cxOf (L2N.CX P w) P w K mg base N x (defScope st) f cdv A outer s H E) T E (defBody st) F) : HasFn P w K mg base T (k + 1) x (fun ws μ => fnOf ps.length N.length F (ws ++ dd.map W.d) μ) := by
  obtain ⟨f, fd, dvs, kws, ds, Fu, hm, hb, hv, hd⟩ := d.ex
  exact ⟨f, fd, ps, ds, dvs, dd, _, hm, Fu.kp, hb, hv, hd, fun ws μ => rfl, fn_ok Fu S (hbody f)⟩
/-- a promise that asks too much -/
theorem fn_no {x : Str} {st : Stmt} {ps : List Str} {k : Nat} (d : DefFact K mg x st ps) : HasFn P w K mg base T k x (fun _ _ => .no) := by
  obtain ⟨f, fd, dvs, kws, Fu, hm, hb⟩ := d.ex
  exact ⟨f, fd, ps, [], [], [], fun _ _ => .no, hm, Fu.kp, hb, .nil, fun _ _ => .nil, fun ws μ => rfl, ⟨fun vs H Q E h => by
    obtain ⟨ws, α, μ, S, rs, q⟩ := h
    exact q.elim, fun A outer s H args us vs Q E _ _ _ _ h => by
    obtain ⟨ws, α, μ, S, rs, q⟩ := h
    exact q.elim⟩⟩
end
end L3

set_option Elab.async false
set_option linter.all false
set_option maxRecDepth 100000
set_option maxHeartbeats 2000000
/-! While an exception is handled: iterators that end, unpacking, comprehensions over zip. -/
namespace HotY
open PySem PySem.Spec PyProof.Rows L2 HotX L2H
section
variable {prog : Program} {w : World} {A : Around} {E : Value → Shared → Prop} {s : Shared}
theorem HotAt.keep {x1 : Addr} {h h' : Heap} (hot : HotAt A x1 h) (k : ∀ o, h.get? x1 = some o → h'.get? x1 = some o) : HotAt A x1 h' := by
  obtain ⟨hh, o, vs, h1, d1, c1⟩ := hot
  exact ⟨hh, o, vs, k o h1, d1, c1⟩
theorem HotAt.ne {x1 b : Addr} {h : Heap} {o : Obj} {vs : Array Value} (hot : HotAt A x1 h) (hb : h.get? b = some o) (hd : o.data = .fields vs) (hn : vs[2]? ≠ some .none) : x1 ≠ b := fun e => by
  obtain ⟨hh, o1, vs1, h1, d1, c1⟩ := hot
  rw [e, hb] at h1
  cases h1
  rw [hd] at d1
  cases d1
  exact hn c1
theorem HotAt.neL {x1 it l : Addr} {i : Nat} {h : Heap} (hot : HotAt A x1 h) (hit : h.IsListIter it l i) : x1 ≠ it := by
  obtain ⟨o, ho, hc, hd⟩ := hit
  exact HotAt.ne hot ho hd (by simp)
theorem HotAt.neT {x1 it l : Addr} {i : Nat} {h : Heap} (hot : HotAt A x1 h) (hit : IsTupIter h it l i) : x1 ≠ it := by
  obtain ⟨o, ho, hc, hd⟩ := hit
  exact HotAt.ne hot ho hd (by simp)
/-- StopIteration raised while an exception is handled -/
theorem stop_hot {α : Type} {x1 : Addr} {Q : α → Shared → Prop} (hot : HotAt A x1 s.heap)
    (hE : ∀ h' e, (∀ b o, s.heap.get? b = some o → h'.get? b = some o) → (∃ o, h'.get? e = some o ∧ o.cls = .type "StopIteration") → E (.ref e) { s with heap := h' }) :
    wpAny (model prog w) A ((newExc (.type "StopIteration") [] >>= fun e => raiseNew e) : Sem α) Q E s := by
  refine wpAny_bind ?_
  simp only [newExc, newTuple]
  refine wpAny_bind (wpAny_newObj_type ?_ (by size_fits))
  refine wpAny_bind (m := firstArgMember _ _) (wpAny_of_eq (a := Value.none) (by first | rfl | (simp only [firstArgMember]; rfl)) ?_)
  refine wpAny_newObj_type ?_ (by size_fits)
  obtain ⟨hh, o1, vs1, h1, d1, c1⟩ := hot
  refine raiseNew_hot ⟨hh, o1, vs1, Heap.get?_push_of_some _ (Heap.get?_push_of_some _ h1), d1, c1⟩ (Nat.ne_of_lt (Heap.lt_size (Heap.get?_push_of_some _ h1))) (Heap.get?_push_size _ rfl) rfl (by first | (simp; done) | (simp; omega) | (simp only [Array.size_append]; simp; omega)) ?_
  refine hE _ _ (fun b o e => ?_) ⟨_, Heap.get?_update_self _ (Heap.get?_push_size _ rfl) rfl, rfl⟩
  rw [Heap.get?_update_other _ _ (Nat.ne_of_gt (Heap.lt_size (Heap.get?_push_of_some _ e)))]
  exact Heap.get?_push_of_some _ (Heap.get?_push_of_some _ e)
theorem nextOf_list_end_hot {it l x1 : Addr} {i : Nat} {items} {Q : Value → Shared → Prop} (hot : HotAt A x1 s.heap)
    (hit : s.heap.IsListIter it l i) (hl : s.heap.IsList l items) (hx : items[i]? = none)
    (hE : ∀ h' e, Heap.ExtBut it s.heap h' → (∃ o, h'.get? e = some o ∧ o.cls = .type "StopIteration") → E (.ref e) { s with heap := h' }) :
    wpAny (model prog w) A (Builtin.SmallTypes.nextOf (.ref it)) Q E s := by
  have hne := HotAt.neL hot hit
  obtain ⟨o, ho, hc, hd⟩ := id hit
  obtain ⟨ol, hol, _, nl, hdl⟩ := hl
  unfold Builtin.SmallTypes.nextOf
  refine wpAny_bind (wpAny_callSpecial?_slot (name := Str.ofString "__next__") hit.typeIs slot_listiter_next
    (wpAny_call_entry slot_listiter_next hit.typeIs entry_listiter_next ?_ (args_listiter_next _)))
  show wpAny _ _ (field (.ref it) 0 >>= _) _ _ s
  refine wpAny_bind (wpAny_field ho hd (x := .ref l) rfl ?_)
  show wpAny _ _ (if (Value.ref l == Value.none) = true then _ else _) _ _ s
  rw [if_neg (show ¬ ((Value.ref l == Value.none) = true) from Bool.false_ne_true)]
  show wpAny _ _ (field (.ref it) 1 >>= _) _ _ s
  refine wpAny_bind (wpAny_field ho hd (x := .int i 0) rfl ?_)
  show wpAny _ _ (seqItems? (.ref l) >>= _) _ _ s
  refine wpAny_bind (wpAny_seqItems hol hdl ?_)
  simp only [Int.toNat_natCast, hx]
  refine wpAny_bind (wpAny_rule (wpAny_bind (wpAny_setField ho hd (by simp) ?_)))
  refine stop_hot (x1 := x1) (HotAt.keep (h' := s.heap.update it (Obj.mapFields (·.setIfInBounds 0 .none))) hot fun o1 e1 => ?_) fun h' e k st => hE h' e (fun b o1 hb e1 => k b o1 ?_) st
  · rw [Heap.get?_update_other _ _ (Ne.symm hne)]; exact e1
  · show (s.heap.update it _).get? b = _
    rw [Heap.get?_update_other _ _ (Ne.symm hb)]; exact e1
theorem next_tuple_end_hot {it t x1 : Addr} {i : Nat} {items} {Q : Option Value → Shared → Prop} (hot : HotAt A x1 s.heap)
    (hit : IsTupIter s.heap it t i) (ht : IsTup s.heap t items) (hx : items[i]? = none)
    (hQ : ∀ h', Heap.ExtBut it s.heap h' → Q none { s with heap := h' }) : wpAny (model prog w) A (pyNext (.ref it)) Q E s := by
  have hne := HotAt.neT hot hit
  obtain ⟨o, ho, hc, hd⟩ := id hit
  obtain ⟨ol, hol, _, nl, hdl⟩ := ht
  unfold pyNext
  refine wpAny_bind (wpAny_attempt (wpAny_callSpecial?_slot (name := Str.ofString "__next__") hit.typeIs slot_tupleiter_next
    (wpAny_call_entry slot_tupleiter_next hit.typeIs entry_tupleiter_next ?_ (args_tupleiter_next _))))
  show wpAny _ _ (field (.ref it) 0 >>= _) _ _ s
  refine wpAny_bind (wpAny_field ho hd (x := .ref t) rfl ?_)
  show wpAny _ _ (if (Value.ref t == Value.none) = true then _ else _) _ _ s
  rw [if_neg (show ¬ ((Value.ref t == Value.none) = true) from Bool.false_ne_true)]
  show wpAny _ _ (field (.ref it) 1 >>= _) _ _ s
  refine wpAny_bind (wpAny_field ho hd (x := .int i 0) rfl ?_)
  show wpAny _ _ (seqItems? (.ref t) >>= _) _ _ s
  refine wpAny_bind (wpAny_seqItems hol hdl ?_)
  simp only [Int.toNat_natCast, hx]
  refine wpAny_bind (wpAny_rule (wpAny_bind (wpAny_setField ho hd (by simp) ?_)))
  refine stop_hot (x1 := x1) (HotAt.keep (h' := s.heap.update it (Obj.mapFields (·.setIfInBounds 0 .none))) hot fun o1 e1 => ?_) fun h' e k st => ?_
  · rw [Heap.get?_update_other _ _ (Ne.symm hne)]; exact e1
  · obtain ⟨oe, he, hce⟩ := st
    refine wpAny_bind (wpAny_isInstance (T := "StopIteration") (b := true) ⟨_, he, hce⟩ isSubtype_stop ?_)
    refine wpAny_pure (hQ _ fun b o1 hb e1 => k b o1 ?_)
    show (s.heap.update it _).get? b = _
    rw [Heap.get?_update_other _ _ (Ne.symm hb)]; exact e1
theorem unpackItems_tuple_hot {t x1 : Addr} {items : Array Value} {Q : List Value → Shared → Prop} (hot : HotAt A x1 s.heap) (ht : IsTup s.heap t items)
    (hQ : ∀ h', Heap.ExtBut s.heap.objs.size s.heap h' → Q items.toList { s with heap := h' }) : wpAny (model prog w) A (unpackItems (.ref t) items.size none) Q E s := by
  have hlt : t ≠ s.heap.objs.size := by obtain ⟨o, ho, _⟩ := ht; exact Nat.ne_of_lt (Heap.lt_size ho)
  unfold unpackItems
  refine wpAny_bind ?_
  · unfold notIterableAtAll
    refine wpAny_bind (wpAny_specialOf ht.typeIs slot_tuple_iter.lookup ?_)
    refine wpAny_pure ?_
    simp only [Bool.false_eq_true, if_false]
    refine wpAny_bind (wpAny_holding (iter_tuple ht ?_))
    refine wpAny_bind (wpAny_holding (draw_tuple hlt items.size 0 _ _ ⟨_, Heap.get?_push_size _ rfl, rfl, rfl⟩ (ht.push _) (by omega) fun h₁ hit₁ hs₁ => ?_))
    have hall : List.take items.size (List.drop 0 items.toList) = items.toList := by
      rw [List.drop_zero]; exact List.take_of_length_le (by simp)
    rw [hall]
    rw [if_neg (by simp)]
    have ht₁ : IsTup h₁ t items := (ht.push _).extBut hs₁.extBut hlt
    have hot1 : HotAt A x1 h₁ := HotAt.keep hot fun o e => hs₁.extBut _ _ (Nat.ne_of_lt (Heap.lt_size e)) (Heap.get?_push_of_some _ e)
    refine wpAny_bind (wpAny_holding (next_tuple_end_hot (s := { s with heap := h₁ }) hot1 hit₁ ht₁ (by simp) fun h₂ he₂ => ?_))
    simp only [Option.isSome_none, Bool.false_eq_true, if_false]
    refine wpAny_pure (hQ h₂ fun b o hb e => he₂ b o hb (hs₁.extBut b o hb (Heap.get?_push_of_some _ e)))
theorem assign_Tuple_tuple_hot {env : Env} {elts : List Expr} {k} {pos : Pos} {t x1 : Addr} {items : Array Value} {Q : Unit → Shared → Prop} (hot : HotAt A x1 s.heap) (ht : IsTup s.heap t items)
    (hn : (assignEach elts env).length = items.size) (hstar : (assignEach elts env).findIdx? (·.1) = none)
    (h : ∀ h', Heap.ExtBut s.heap.objs.size s.heap h' → wpAny (model prog w) A (assignInOrder ((assignEach elts env).map (·.2)) items.toList) Q E { s with heap := h' }) :
    wpAny (model prog w) A (assign (.Tuple elts k pos) env (.ref t)) Q E s := by
  rw [assign_Tuple]
  refine wpAny_bind (wpAny_standAt ?_)
  unfold unpack
  rw [hn, hstar]
  exact wpAny_bind (wpAny_holding (unpackItems_tuple_hot hot ht h))
theorem zip_next_end_hot {x1 z TI TO i1 i2 l1 l2 : Addr} {k1 k2 : Nat} {xs ys : Array Value} {a b : Value} {Q : Fin → Shared → Prop} (hot : HotAt A x1 s.heap) (D : ZipApart z TI TO i1 i2 l1 l2)
    (hz : IsZip s.heap z TI TO .none) (hTI : IsPair s.heap TI (.ref i1) (.ref i2)) (hTO : IsPair s.heap TO a b)
    (h1 : s.heap.IsListIter i1 l1 k1) (h2 : s.heap.IsListIter i2 l2 k2) (hl1 : s.heap.IsList l1 xs) (hl2 : s.heap.IsList l2 ys) (hend : xs[k1]? = none ∨ ys[k2]? = none)
    (hE : ∀ h' e, (∀ c o, c ≠ z → c ≠ TO → c ≠ i1 → c ≠ i2 → s.heap.get? c = some o → h'.get? c = some o) → (∃ o, h'.get? e = some o ∧ o.cls = .type "StopIteration") → E (.ref e) { s with heap := h' }) :
    wpAny (model prog w) A (Builtin.«zip.__next__» ⟨[.ref z], []⟩) Q E s := by
  have nz : x1 ≠ z := HotAt.ne hot hz rfl (by simp)
  have n1 := HotAt.neL hot h1
  have n2 := HotAt.neL hot h2
  have nTO : x1 ≠ TO := fun e => by
    obtain ⟨hh, o1, vs1, e1, d1, c1⟩ := hot
    rw [e, hTO] at e1
    cases e1
    cases d1
  show wpAny _ _ (field (.ref z) 2 >>= _) _ _ _
  refine wpAny_bind (wpAny_field hz rfl (x := .bool false) rfl ?_)
  show wpAny _ _ (field (.ref z) 3 >>= _) _ _ _
  refine wpAny_bind (wpAny_field hz rfl (x := .ref TI) rfl ?_)
  refine wpAny_bind (wpAny_seqItems hTI rfl ?_)
  show wpAny _ _ (Builtin.SmallTypes.ownedTupleIsFree (.ref z) >>= _) _ _ _
  refine wpAny_bind ?_
  unfold Builtin.SmallTypes.ownedTupleIsFree
  refine wpAny_bind (wpAny_field hz rfl (x := .none) rfl (wpAny_pure ?_))
  simp only [if_true]
  refine wpAny_bind (wpAny_rule ?_)
  refine wpAny_bind (wpAny_field hz rfl (x := .ref TO) rfl ?_)
  refine wpAny_bind (wpAny_setField_rec hz (by simp) fun h₁ hz₁ hs₁ => ?_)
  replace hz₁ : IsZip h₁ z TI TO .ellipsis := hz₁
  have hot1 : HotAt A x1 h₁ := HotAt.keep hot fun o e => hs₁.extBut _ _ nz e
  refine wpAny_bind ?_
  simp only [List.zipIdx_cons, List.zipIdx_nil, List.forIn_cons, List.forIn_nil]
  refine wpAny_bind (wpAny_bind (wpAny_onRaise ?_))
  show wpAny _ _ (Builtin.SmallTypes.nextOf (.ref i1) >>= _) _ _ _
  cases hx : xs[k1]? with
  | none =>
    refine wpAny_bind (nextOf_list_end_hot (x1 := x1) (s := { s with heap := h₁ }) hot1 (h1.extBut hs₁.extBut D.i1z) (hl1.extBut hs₁.extBut D.l1z) hx fun h₂ e hs₂ he => ?_)
    obtain ⟨oe, hoe, hce⟩ := he
    have hz₂ : IsZip h₂ z TI TO .ellipsis := hs₂ _ _ D.i1z.symm hz₁
    have hez : e ≠ z := fun x => by subst x; rw [hz₂] at hoe; cases hoe; simp at hce
    refine wpAny_setField_rec hz₂ (by simp) fun h₃ _ hs₃ => hE h₃ e (fun c o c1 _ c3 _ x => hs₃.extBut _ _ c1 (hs₂ _ _ c3 (hs₁.extBut _ _ c1 x))) ⟨oe, hs₃.extBut _ _ hez hoe, hce⟩
  | some x =>
    have hy : ys[k2]? = none := by rcases hend with h | h; rw [hx] at h; cases h; exact h
    refine wpAny_bind (wpAny_nextOf_list_item (h1.extBut hs₁.extBut D.i1z) (hl1.extBut hs₁.extBut D.l1z) hx fun h₂ h1₂ hs₂ => wpAny_pure ?_)
    have hTO₂ : IsPair h₂ TO a b := hs₂.extBut _ _ D.TOi1 (hs₁.extBut _ _ D.TOz hTO)
    refine wpAny_bind (wpAny_seqItems hTO₂ rfl ?_)
    refine wpAny_bind (wpAny_updateSeq_pair hTO₂ fun h₃ hTO₃ hs₃ => ?_)
    refine wpAny_bind (wpAny_letGo (wpAny_pure ?_))
    refine wpAny_bind (wpAny_bind (wpAny_onRaise ?_))
    show wpAny _ _ (Builtin.SmallTypes.nextOf (.ref i2) >>= _) _ _ _
    have hot3 : HotAt A x1 h₃ := HotAt.keep hot1 fun o e => hs₃.extBut _ _ nTO (hs₂.extBut _ _ n1 e)
    refine wpAny_bind (nextOf_list_end_hot (x1 := x1) (s := { s with heap := h₃ }) hot3 (((h2.extBut hs₁.extBut D.i2z).extBut hs₂.extBut D.i12.symm).extBut hs₃.extBut D.TOi2.symm)
      (((hl2.extBut hs₁.extBut D.l2z).extBut hs₂.extBut D.l2i1).extBut hs₃.extBut D.l2TO) hy fun h₄ e hs₄ he => ?_)
    obtain ⟨oe, hoe, hce⟩ := he
    have hz₄ : IsZip h₄ z TI TO .ellipsis := hs₄ _ _ D.i2z.symm (hs₃.extBut _ _ D.TOz.symm (hs₂.extBut _ _ D.i1z.symm hz₁))
    have hez : e ≠ z := fun x => by subst x; rw [hz₄] at hoe; cases hoe; simp at hce
    refine wpAny_setField_rec hz₄ (by simp) fun h₅ _ hs₅ => hE h₅ e (fun c o c1 c2 c3 c4 x => hs₅.extBut _ _ c1 (hs₄ _ _ c4 (hs₃.extBut _ _ c2 (hs₂.extBut _ _ c3 (hs₁.extBut _ _ c1 x))))) ⟨oe, hs₅.extBut _ _ hez hoe, hce⟩
theorem pyNext_zip_end_hot {x1 z TI TO i1 i2 l1 l2 : Addr} {k1 k2 : Nat} {xs ys : Array Value} {a b : Value} {Q : Option Value → Shared → Prop} (hot : HotAt A x1 s.heap) (D : ZipApart z TI TO i1 i2 l1 l2)
    (hz : IsZip s.heap z TI TO .none) (hTI : IsPair s.heap TI (.ref i1) (.ref i2)) (hTO : IsPair s.heap TO a b)
    (h1 : s.heap.IsListIter i1 l1 k1) (h2 : s.heap.IsListIter i2 l2 k2) (hl1 : s.heap.IsList l1 xs) (hl2 : s.heap.IsList l2 ys) (hend : xs[k1]? = none ∨ ys[k2]? = none)
    (hQ : ∀ h', (∀ c o, c ≠ z → c ≠ TO → c ≠ i1 → c ≠ i2 → s.heap.get? c = some o → h'.get? c = some o) → Q none { s with heap := h' }) : wpAny (model prog w) A (pyNext (.ref z)) Q E s := by
  have hT : s.TypeIs (.ref z) "zip" := ⟨_, hz, rfl⟩
  unfold pyNext
  refine wpAny_bind (wpAny_attempt (wpAny_callSpecial?_slot (name := Str.ofString "__next__") hT F.slot_zip_next
    (wpAny_call_entry F.slot_zip_next hT F.entry_zip_next (zip_next_end_hot (x1 := x1) hot D hz hTI hTO h1 h2 hl1 hl2 hend fun h' e hk he => ?_) (F.args_zip_next_1 _))))
  obtain ⟨o, ho, hc⟩ := he
  refine wpAny_bind (wpAny_isInstance (T := "StopIteration") (b := true) ⟨o, ho, hc⟩ isSubtype_stop ?_)
  exact wpAny_pure (hQ _ hk)
end
/-! ### rules -/
section
variable {X : Cx} {pos : Pos}
theorem pg_tupH {es : List Expr} {k : Nat} {t : TGs} {n : Nat} (hc : HotC X) (h : PGs X es t)
    (hn : (assignEach es X.env).length = n := by rfl) (hst : (assignEach es X.env).findIdx? (·.1) = none := by rfl) : PG X (.Tuple es k pos) (gTup X.K n t) := by
  refine ⟨fun pins s σ H v u Q I r hw => ?_⟩
  obtain ⟨a, xs, e1, hq, hl, hw⟩ := hw
  subst e1
  cases r
  obtain ⟨its, rv, ht, hz⟩ := I.tuple hq
  obtain ⟨x1, hot⟩ := hc.at I
  refine assign_Tuple_tuple_hot hot ht (by simp [hn, ← hl, rv.length]) hst fun h' hx => ?_
  have I1 : Inv X pins σ H { s with heap := h' } := I.kept (t' := s.toks) fun b o e => hx b o (Nat.ne_of_lt (Heap.lt_size e)) e
  exact h.run pins _ σ H xs _ Q I1 (by simpa using rv) hw
theorem turn_zipH {P : Program} {w : World} {K : PySem.W.Frag} {elts : List Expr} {kk : Nat} {tpos : Pos} {a b z TI TO i1 i2 : Addr} (D : ZipApart z TI TO i1 i2 a b) :
    TurnH P w K (.Tuple elts kk tpos) (Itz K a b) [z, TI, TO, i1, i2] z (fun i h => IsZip h z TI TO .none ∧ IsPair h TI (.ref i1) (.ref i2) ∧ (∃ x y, IsPair h TO x y) ∧ h.IsListIter i1 a i ∧ h.IsListIter i2 b i) where
  mem := by simp
  obj := (turn_zip (P := P) (w := w) (K := K) (elts := elts) (kk := kk) (tpos := tpos) D).obj
  keep := (turn_zip (P := P) (w := w) (K := K) (elts := elts) (kk := kk) (tpos := tpos) D).keep
  item := by
    intro X hP hw hK hc i pins s σ H E I hf st hg
    subst hP hw hK
    obtain ⟨hz, hTI, ⟨x0, y0, hTO⟩, h1, h2⟩ := st
    obtain ⟨xs, ys, x, y, hqx, hqy, hx, hy⟩ := hg
    obtain ⟨its, rv, p, _⟩ := I.list hqx
    obtain ⟨its2, rv2, p2, _⟩ := I.list hqy
    obtain ⟨u, hu, ru⟩ := rv.get hx
    obtain ⟨u2, hu2, ru2⟩ := rv2.get hy
    have hzl : z < s.heap.objs.size := Heap.lt_size hz
    refine wpAny_pyNext_zip_item D hz hTI hTO h1 h2 p.isList p2.isList (x := u) (y := u2) (by simpa using hu) (by simpa using hu2) fun h' z' TO' h1' h2' hT hsz hk => ?_
    refine ⟨_, rfl, wpAny_letOwnedTupleGo_zip (s := { s with heap := h' }) z' fun h'' z'' sb => ?_⟩
    have hT2 : h''.get? s.heap.objs.size = some { cls := .type "tuple", data := .seq #[u, u2] } := (sb.2 _ (Nat.ne_of_gt hzl)).trans hT
    have new : ObjOk X.prog X.w (upd H s.heap.objs.size (.tup [x, y])) h'' s.heap.objs.size (.tup [x, y]) :=
      ⟨by show 2 ≤ sizeLine; decide, [u, u2], .cons ru (.cons ru2 .nil), ⟨_, hT2, rfl, _, rfl⟩⟩
    have I1 : Inv X pins σ (upd H s.heap.objs.size (.tup [x, y])) { s with heap := h'' } :=
      I.turnedNew (t' := s.toks) (ch := [z, TI, TO, i1, i2]) (fun c o hb q => (sb.2 c (fun q' => hb (by simp [q']))).trans (hk c o (fun q' => hb (by simp [q'])) (fun q' => hb (by simp [q'])) (fun q' => hb (by simp [q'])) (fun q' => hb (by simp [q'])) q)) hf (Nat.le_refl _) new
    refine ⟨.ref s.heap.objs.size, _, I1, rfl, ⟨_, x, y, rfl, I.hok.fresh (Nat.le_refl _), rfl, fun l hl => by rw [I.list_inj hl hqx]; exact hx, fun l hl => by rw [I.list_inj hl hqy]; exact hy⟩, ⟨z'', ?_, ⟨u, u2, ?_⟩, ?_, ?_⟩, fun c hcm => ?_⟩
    · exact (sb.2 _ D.TIz).trans (hk _ _ D.TIz D.TITO D.TIi1 D.TIi2 hTI)
    · exact (sb.2 _ D.TOz).trans TO'
    · exact h1'.at fun o q => (sb.2 _ D.i1z).trans q
    · exact h2'.at fun o q => (sb.2 _ D.i2z).trans q
    · have hlt : c < s.heap.objs.size := by
        have e' : c = z ∨ c = TI ∨ c = TO ∨ c = i1 ∨ c = i2 := by simpa using hcm
        rcases e' with q | q | q | q | q
        · rw [q]; exact hzl
        · rw [q]; exact Heap.lt_size hTI
        · rw [q]; exact Heap.lt_size hTO
        · rw [q]; obtain ⟨_, e1, _⟩ := h1; exact Heap.lt_size e1
        · rw [q]; obtain ⟨_, e2, _⟩ := h2; exact Heap.lt_size e2
      rw [upd_ne (Nat.ne_of_lt hlt)]
      exact (hf c hcm).1
  done := by
    intro X hP hw hK hc i pins s σ H E I hf st hg
    subst hP hw hK
    obtain ⟨hz, hTI, ⟨x0, y0, hTO⟩, h1, h2⟩ := st
    obtain ⟨xs, ys, hqx, hqy, hend⟩ := hg
    obtain ⟨its, rv, p, _⟩ := I.list hqx
    obtain ⟨its2, rv2, p2, _⟩ := I.list hqy
    have l1 := rv.length
    have l2 := rv2.length
    have he : its.toArray[i]? = none ∨ its2.toArray[i]? = none := by
      rcases hend with q | q
      · exact .inl (by simp; omega)
      · exact .inr (by simp; omega)
    obtain ⟨x1, hot⟩ := hc.at I
    exact pyNext_zip_end_hot hot D hz hTI hTO h1 h2 p.isList p2.isList he fun h' hk => ⟨rfl, I.turnedL (t' := s.toks) (ch := [z, TI, TO, i1, i2]) (fun c o hb q =>
      hk c o (fun q' => hb (by simp [q'])) (fun q' => hb (by simp [q'])) (fun q' => hb (by simp [q'])) (fun q' => hb (by simp [q'])) q) hf⟩
  self := fun A i s Q E st h => wpAny_pyIter_zip st.1 h
theorem pi_zipH {e e2 : Expr} {ta : TA} {p tpos : Pos} {elts : List Expr} {kk : Nat} (hg : Gl X "zip") (hm : X.mg "zip" = none) (ha : PA X [e, e2] ta)
    (hs : starEach [e, e2] X.env = (false, eval e X.env) :: starEach [e2] X.env := by rfl) (hpl : (backTo pos (starEach [e2] X.env)).any (·.1) = false := by rfl) :
    PIH X (.Tuple elts kk tpos) (.Call (.Name "zip" p) [e, e2] [] pos) (iZip X.K ta) := by
  refine ⟨fun pins s σ H R I h => ?_⟩
  refine Call_ (ld_blt I hg hm PyProof.Rows.boot_zip (PyProof.Rows.callWith_type1 (thn (ha.run pos pins s σ H _ I h) fun us s1 ⟨vs, H1, I1, r1, q1⟩ => ?_) hs hpl))
  obtain ⟨a, b, xs, ys, ex, hqx, hqy, q⟩ := q1
  subst ex
  cases r1 with
  | cons r rr =>
    cases rr with
    | cons r' rr =>
      cases rr
      cases r
      cases r'
      obtain ⟨its, rv, p1, _⟩ := I1.list hqx
      obtain ⟨its2, rv2, p2, _⟩ := I1.list hqy
      refine call_zip_2 p1.isList p2.isList fun h' hz hTI hTO h1 h2 hsz hk => wpAny_pyIter_zip hz ?_
      have I2 : Inv X pins σ H1 { s1 with heap := h' } := I1.kept (t' := s1.toks) hk
      refine ⟨s1.heap.objs.size + 4, [s1.heap.objs.size + 4, s1.heap.objs.size + 2, s1.heap.objs.size + 3, s1.heap.objs.size, s1.heap.objs.size + 1], _, _, H1, rfl, I2, turn_zipH (PySem.W.ktu_apart s1.heap.objs.size a b p1.lt p2.lt), ⟨hz, hTI, ⟨_, _, hTO⟩, h1, h2⟩, fun c hcm => ?_, q⟩
      have e' : c = s1.heap.objs.size + 4 ∨ c = s1.heap.objs.size + 2 ∨ c = s1.heap.objs.size + 3 ∨ c = s1.heap.objs.size ∨ c = s1.heap.objs.size + 1 := by simpa using hcm
      have hle : s1.heap.objs.size ≤ c := by
        rcases e' with z | z | z | z | z
        · rw [z]; exact Nat.le_add_right _ _
        · rw [z]; exact Nat.le_add_right _ _
        · rw [z]; exact Nat.le_add_right _ _
        · rw [z]; exact Nat.le_refl _
        · rw [z]; exact Nat.le_add_right _ _
      exact I1.fpOk hle (I1.hok.fresh hle)
/-- isinstance(e, c), e the exception that is pinned -/
theorem call_isP {a D : Addr} {oe : Obj} (C : ExcC X.K D) (hz : Zc (.ref D) none oe) (hf : ∃ vs, oe.data = .fields vs) (hp : (a, oe) ∈ X.pn) : CallR X (.builtin "isinstance") (rIsE X.K D a) := by
  intro pins s σ H xs us Q I r h
  obtain ⟨c, cv, b, rfl, hcv, e, q⟩ := h
  cases r with
  | cons rx rr =>
    cases rr with
    | cons rt rr =>
      cases rr
      cases rx
      have ec := hcv _ rt
      subst ec
      obtain ⟨hget, _⟩ := I.pin (a, oe) (List.mem_append.mpr (.inl hp))
      obtain ⟨vs, hv⟩ := hf
      have J : PySem.W.InstAt s.heap a oe D none := by
        obtain ⟨oc, od, oda, osl⟩ := oe
        obtain ⟨h1, h2⟩ := hz
        dsimp only at h1 h2 hv
        subst h1 h2 hv
        exact ⟨hget, rfl, rfl, trivial⟩
      exact PySem.W.kia_one (PySem.W.handS_kitx_exc C.hg C.hk C.hs C.hd C.ha C.hn C.ht C.hm) I.kIn J e (fun z => nomatch z) fun tk => ⟨.bl b, H, I.kept (t' := tk) fun _ _ z => z, rfl, q⟩
end
/-! ### comprehensions -/
abbrev blkH (X : Cx) (p : Addr × Obj) (s : Shared) (H : Hp) (scope : Scope) (cenv : Env) (fp : List Addr) : Cx := (X.blk s H scope cenv fp).tr [p] (fun _ _ => False)
section
variable {X : Cx} {pos : Pos}
theorem block_startH {pins : List (Addr × Obj)} {σ : L2.St} {H : Hp} {s : Shared} {scope : Scope} {own : List (Str × Nat)} {fp : List Addr} {p0 : Addr × Obj} (hot : Hot1 X.A p0) (hp0 : p0 ∈ X.pn) (I : Inv X pins σ H s) (ok : BlkOk X.N X.env.scope scope own) (hN : X.N.Nodup) (hfp : ∀ b ∈ fp, FpOk X pins H b ∧ b < s.heap.objs.size) :
    Inv (blkH X p0 s H scope (compEnvC scope (cellsFrom (s.heap.objs.size + 1) scope.names (cloFrom X.env.cells scope.names [])) s.heap.objs.size X.env) fp) [] (wipe σ (own.map (·.2))) H { s with heap := pushCells (s.heap.push { cls := .type "dict", data := .dict #[] }) scope.names } := by
  have J := block_start I ok hN hfp
  have P0 := I.pin p0 (List.mem_append_left _ hp0)
  refine ⟨J.ok.toTry _ _, J.os, J.bare, J.base, J.loc, J.cell, J.free, J.freeC, fun p hp => ?_, J.hok, J.len⟩
  have e : p = p0 := by simpa using (show p ∈ [p0] ++ ([] : List (Addr × Obj)) from hp)
  rw [e]
  refine ⟨pushCells_keeps _ _ _ _ (Heap.get?_push_of_some _ P0.1), P0.2.1, Nat.ne_of_lt (Heap.lt_size P0.1), fun hm => ?_, P0.2.2.2.2⟩
  exact (List.mem_cons.mp (I.stkSub p0.1 hm)).elim P0.2.2.1 P0.2.2.2.1
theorem lc_coreH {pins : List (Addr × Obj)} {s : Shared} {σ : L2.St} {H : Hp} {Q : VK} {elt tg iter : Expr} {ifs : List Expr} {scope : Scope} {own : List (Str × Nat)} {pos pos' : Pos} {wi : TI} {g : TG} {tt : TT} {te : TE} {use : Option (Value → Sem Unit)} {Qf : Value → Shared → Prop}
    {p0 : Addr × Obj} (hot : Hot1 X.A p0) (hp0 : p0 ∈ X.pn) (hN : X.N.Nodup) (I : Inv X pins σ H s) (hi : PIH X tg iter wi) (ok : BlkOk X.N X.env.scope scope own)
    (hg : ∀ (s : Shared) (H : Hp) (C : Addr) (cl : List (Str × Addr)) (fp : List Addr), PG (blkH X p0 s H scope (compEnvC scope cl C X.env) fp) tg g) (ht : ∀ (s : Shared) (H : Hp) (C : Addr) (cl : List (Str × Addr)) (fp : List Addr), PTs (blkH X p0 s H scope (compEnvC scope cl C X.env) fp) ifs tt)
    (he : ∀ (s : Shared) (H : Hp) (C : Addr) (cl : List (Str × Addr)) (fp : List Addr), PE (blkH X p0 s H scope (compEnvC scope cl C X.env) fp) elt te) (hs : ∀ x, foldedSetIterable iter X.env x = pure x)
    (h : tLc wi g tt te (own.map (·.2)) σ H Q)
    (hRR : ∀ D C s' m H', Inv X pins σ H' s' → Q (.ref D) H' → s'.heap.Ns C m → FpOk X pins H' C → compPost (model X.prog X.w) X.A X.xe use Qf (.ref D) C (.ok .next) s') :
    wpAny (model X.prog X.w) X.A (comprehension (.ListComp elt [⟨tg, iter, ifs, 0⟩] scope pos) scope X.env pos' (newList []) false (eval iter X.env) use) Qf X.xe s := by
  have hfree : ∀ y ∈ scope.names, y.2 = .free → ∃ c, X.env.cells.lookup y.1 = some c := fun y hy e => by
    rcases ok.free y hy e with k | k
    · exact I.ok.has _ (.inl k)
    · exact I.ok.has _ (.inr k)
  refine wpAny_comprehension_free (use := use) rfl hs (closure_ok hfree) ok.kind (fun y hy e => by rw [ok.uniq y hy, e])
    (thn (hi.run pins s σ H _ I h) fun xv s1 hx => thn hx fun itv s2 h2 => ?_)
  obtain ⟨it, fp, tn, J, H2, e, I2, T, st2, f2, q⟩ := h2
  subst e
  refine wpAny_newObj_type (newEnv_comp ?_) (by show 0 ≤ sizeLine; decide)
  generalize hD : s2.heap.objs.size = D
  have hDn : H2 D = none := I2.hok.fresh (Nat.le_of_eq hD)
  obtain ⟨W, ⟨m0, w0⟩, turn⟩ := q D hDn
  -- the new list
  generalize hs3 : ({ s2 with heap := s2.heap.push { cls := .type "list", data := .seq ([] : List Value).toArray } } : Shared) = s3
  have I3 : Inv X pins σ (upd H2 D (.lst [])) s3 := by
    rw [← hs3]
    refine I2.laid (t' := s2.toks) (fun b o e => Heap.get?_push_of_some _ e) (Nat.le_of_eq hD) ⟨Nat.zero_le _, [], 0, .nil, ?_⟩
    rw [← hD]
    exact Heap.get?_push_size _ rfl
  have h3 : s3.heap = s2.heap.push { cls := .type "list", data := .seq ([] : List Value).toArray } := by rw [← hs3]
  have sz : ∀ b ∈ fp, b < s2.heap.objs.size := fun b hb => by
    obtain ⟨o, e, _⟩ := T.obj _ _ st2 b hb
    exact Heap.lt_size e
  have f3 : ∀ b ∈ fp, FpOk X pins (upd H2 D (.lst [])) b ∧ b < s3.heap.objs.size := fun b hb => by
    have hlt := sz b hb
    refine ⟨⟨?_, (f2 b hb).2⟩, by rw [h3, Heap.size_push]; exact Nat.lt_succ_of_lt hlt⟩
    rw [upd_ne (by rw [← hD]; exact Nat.ne_of_lt hlt)]
    exact (f2 b hb).1
  have st3 : tn 0 s3.heap := T.keep _ _ _ st2 fun b _ o e => by rw [h3]; exact Heap.get?_push_of_some _ e
  have I4 := block_startH hot hp0 I3 ok hN f3
  have pg := hg s3 (upd H2 D (.lst [])) s3.heap.objs.size (cellsFrom (s3.heap.objs.size + 1) scope.names (cloFrom X.env.cells scope.names [])) fp
  have pt := ht s3 (upd H2 D (.lst [])) s3.heap.objs.size (cellsFrom (s3.heap.objs.size + 1) scope.names (cloFrom X.env.cells scope.names [])) fp
  have pe := he s3 (upd H2 D (.lst [])) s3.heap.objs.size (cellsFrom (s3.heap.objs.size + 1) scope.names (cloFrom X.env.cells scope.names [])) fp
  show codeAny _ _ (.compStart (.ListComp elt [⟨tg, iter, ifs, 0⟩] scope pos) 0 (.ref it) (.ref D) (compEnvC scope (cellsFrom (s3.heap.objs.size + 1) scope.names (cloFrom X.env.cells scope.names [])) s3.heap.objs.size X.env)) (compPost (model X.prog X.w) X.A X.xe use Qf (.ref D) s3.heap.objs.size) { s3 with heap := pushCells (s3.heap.push { cls := .type "dict", data := .dict #[] }) scope.names }
  have nfp : ∀ b ∈ fp, (upd H2 D (.lst [])) b = none := fun b hb => (f3 b hb).1.1
  generalize hce : compEnvC scope (cellsFrom (s3.heap.objs.size + 1) scope.names (cloFrom X.env.cells scope.names [])) s3.heap.objs.size X.env = ce at I4 pg pt pe ⊢
  have cL : ce.locals = s3.heap.objs.size := by subst hce; rfl
  generalize hH3 : upd H2 D (.lst []) = H3 at I3 I4 pg pt pe w0 nfp f3
  generalize hs4 : ({ s3 with heap := pushCells (s3.heap.push { cls := .type "dict", data := .dict #[] }) scope.names } : Shared) = s4 at I4 ⊢
  have st4 : tn 0 s4.heap := T.keep _ _ _ st3 fun b _ o e => by rw [← hs4]; exact pushCells_keeps _ _ _ _ (Heap.get?_push_of_some _ e)
  have stat : ∀ {σ' : L2.St} {H' : Hp} {s' : Shared}, Inv (blkH X p0 s3 H3 scope ce fp) [] σ' H' s' → (∀ b ∈ fp, H' b = none) → ∀ b ∈ fp, FpOk (blkH X p0 s3 H3 scope ce fp) [] H' b := fun {σ' H' s'} I' hn b hb =>
    ⟨hn b hb, (I'.ok.exf b hb).1, I'.ok.exfs b hb, .inl hb, fun x c e => (I'.ok.exf b hb).2 x c e, fun p hp => by
      have e : p = p0 := by simpa using (show p ∈ [p0] ++ ([] : List (Addr × Obj)) from hp)
      rw [e]
      exact (f2 b hb).2.2.2.2.2 p0 (List.mem_append_left _ hp0)⟩
  have hcB : HotC (blkH X p0 s3 H3 scope ce fp) := ⟨p0, hot, List.mem_singleton.mpr rfl⟩
  have loop : codeAny (model X.prog X.w) X.A (.compLoop (.ListComp elt [⟨tg, iter, ifs, 0⟩] scope pos) 0 (.ref it) (.ref D) ce) (compPost (model X.prog X.w) X.A X.xe use Qf (.ref D) s3.heap.objs.size) s4 := by
    refine compLoop_any (fun n s' => ∃ i H', Inv (blkH X p0 s3 H3 scope ce fp) [] (wipe σ (own.map (·.2))) H' s' ∧ tn i s'.heap ∧ (∀ b ∈ fp, H' b = none) ∧ W i n H') ?_ m0 ⟨0, H3, I4, st4, nfp, w0⟩
    rintro n s5 ⟨i, H5, I5, st5, n5, w5⟩
    rcases turn i n H5 w5 with ⟨stop, qq⟩ | ⟨go, Nx, hNx, step⟩
    · have td := T.done (blkH X p0 s3 H3 scope ce fp) rfl rfl rfl hcB i [] s5 _ H5 (fun _ _ => False) I5 (stat I5 n5) st5 stop
      refine thnF td fun r s6 ⟨hr, I6⟩ => ?_
      subst hr
      -- back in the def's context
      have I7 : Inv X pins σ H5 s6 := I3.call' (ch := fp) I6.os I6.base I6.hok I6.bare fun b hb => ⟨(f3 b hb).1.2.2.2.1, (f3 b hb).1.2.1, (f3 b hb).1.2.2.2.2.1, (f3 b hb).1.2.2.2.2.2⟩
      have nC : H5 s3.heap.objs.size = none := by
        have z : H5 ce.locals = none := I6.free
        rw [cL] at z
        exact z
      obtain ⟨m, hn, _⟩ := I6.loc
      have hn : s6.heap.Ns ce.locals m := hn
      rw [cL] at hn
      exact hRR D s3.heap.objs.size s6 m H5 I7 qq hn (I3.fpOk (Nat.le_refl _) nC)
    · have ti := T.item (blkH X p0 s3 H3 scope ce fp) rfl rfl rfl hcB i [] s5 _ H5 (fun _ _ => False) I5 (stat I5 n5) st5 go
      refine thnF ti fun r s6 ⟨u, hr, h6⟩ => ?_
      subst hr
      refine thnF h6 fun _ s7 ⟨x, H7, I7, r7, y7, st7, n7⟩ => ?_
      have I7' := I7.pinned (stat I7 n7) (T.obj _ _ st7)
      refine thnF (pg.run _ s7 _ H7 x u _ I7' r7 (step x H7 y7)) fun _ s8 ⟨σ8, H8, I8, hw8, q8⟩ => ?_
      refine thnF (pt.run _ s8 σ8 H8 _ I8 q8) fun b s9 ⟨H9, I9, q9⟩ => ?_
      -- the turn's end
      have fin : ∀ {s' : Shared} {H' : Hp}, Inv (blkH X p0 s3 H3 scope ce fp) ([] ++ pinsAt fp s7.heap) σ8 H' s' → Nx H' → ∃ m, m < n ∧ ∃ i H', Inv (blkH X p0 s3 H3 scope ce fp) [] (wipe σ (own.map (·.2))) H' s' ∧ tn i s'.heap ∧ (∀ b ∈ fp, H' b = none) ∧ W i m H' := fun {s' H'} I' nx => by
        obtain ⟨m', hm, w'⟩ := hNx H' nx
        have pin' : ∀ b ∈ fp, ∀ o, s7.heap.get? b = some o → s'.heap.get? b = some o ∧ H' b = none := fun b hb o e =>
          let z := I'.pin (b, o) (List.mem_append_right _ (List.mem_append_right _ (mem_pinsAt hb e)))
          ⟨z.1, z.2.1⟩
        have hl : (wipe σ (own.map (·.2))).length = σ8.length := by rw [← hw8, wipe_length]
        refine ⟨m', hm, i + 1, H', (I'.unpinned (pins := [])).weak hl (fun j v e => ?_), T.keep _ _ _ st7 fun b hb o e => (pin' b hb o e).1, fun b hb => ?_, w'⟩
        · rw [← hw8] at e
          exact (wipe_some e).1
        · obtain ⟨o, e, _⟩ := T.obj _ _ st7 b hb
          exact (pin' b hb o e).2
      cases b with
      | false =>
        simp only [Bool.false_eq_true, if_false] at q9 ⊢
        exact fin I9 q9
      | true =>
        simp only [if_true] at q9 ⊢
        refine thnF (pe.run _ s9 σ8 H9 _ I9 q9) fun z s10 ⟨yv, H10, I10, r10, acc, hD10, hz10, nx⟩ => ?_
        exact app_ok (X := blkH X p0 s3 H3 scope ce fp) I10 hD10 hz10 r10 fun s11 I11 => fin I11 nx
  exact codeAny_compStart_list loop (T.self X.A 0 _ _ _ st4 loop)
theorem pe_lcH {elt tg iter : Expr} {ifs : List Expr} {scope : Scope} {own : List (Str × Nat)} {pos : Pos} {wi : TI} {g : TG} {tt : TT} {te : TE} {p0 : Addr × Obj} (hot : Hot1 X.A p0) (hp0 : p0 ∈ X.pn) (hN : X.N.Nodup) (hi : PIH X tg iter wi) (ok : BlkOk X.N X.env.scope scope own)
    (hg : ∀ (s : Shared) (H : Hp) (C : Addr) (cl : List (Str × Addr)) (fp : List Addr), PG (blkH X p0 s H scope (compEnvC scope cl C X.env) fp) tg g) (ht : ∀ (s : Shared) (H : Hp) (C : Addr) (cl : List (Str × Addr)) (fp : List Addr), PTs (blkH X p0 s H scope (compEnvC scope cl C X.env) fp) ifs tt)
    (he : ∀ (s : Shared) (H : Hp) (C : Addr) (cl : List (Str × Addr)) (fp : List Addr), PE (blkH X p0 s H scope (compEnvC scope cl C X.env) fp) elt te) (hs : ∀ x, foldedSetIterable iter X.env x = pure x := by intro _; rfl) :
    PE X (.ListComp elt [⟨tg, iter, ifs, 0⟩] scope pos) (tLc wi g tt te (own.map (·.2))) := by
  refine ⟨fun pins s σ H Q I h => ?_⟩
  rw [eval_ListComp]
  refine lc_coreH hot hp0 hN I hi ok hg ht he hs h fun D C s' m H' I' q hn f => ⟨m, hn, fun h'' sb => ?_⟩
  obtain ⟨f0, f1, f2, f3, f4, f5⟩ := f
  exact ⟨.ref D, H', I'.turned (t' := s'.toks) (fun b o hb e => (sb.2 b hb).trans e) f0 f1 f3 f4 f5, rfl, q⟩end
end HotY

set_option Elab.async false
set_option linter.all false
set_option maxRecDepth 100000
set_option maxHeartbeats 2000000
/-! Methods of texts, zip. -/
namespace L3
open PySem PySem.Spec PyProof.Rows L2 Mi
section
variable {C : Cv} {E : XK} {H : Hp} {α : Al} {μ : Sto}
theorem RpAll.strs {K : PySem.W.Frag} {M : Addr → Prop} : ∀ {vs : List V} {ds : List D} {ys : List Str}, RpAll K H M vs ds → strsOf ds = some ys → vs = ys.map V.str
  | _, _, _, .nil, e => by cases e; rfl
  | _, .str b :: ds, ys, .cons r t, e => by
    unfold strsOf at e
    cases e1 : strsOf ds with
    | none => rw [e1] at e; cases e
    | some k' =>
      rw [e1] at e
      cases e
      cases r
      rw [RpAll.strs t e1]
      rfl
  | _, .none :: ds, _, .cons r t, e => by cases e
  | _, .bool _ :: ds, _, .cons r t, e => by cases e
  | _, .int _ :: ds, _, .cons r t, e => by cases e
  | _, .list _ :: ds, _, .cons r t, e => by cases e
  | _, .tuple _ :: ds, _, .cons r t, e => by cases e
  | _, .dict _ :: ds, _, .cons r t, e => by cases e
theorem rpAll_strs {K : PySem.W.Frag} {M : Addr → Prop} : ∀ ys : List Str, RpAll K H M (ys.map V.str) (ys.map PyData.str)
  | [] => .nil
  | y :: ys => .cons (.str y) (rpAll_strs ys)
/-- what a method of a text asks -/
def MeS (C : Cv) (op : Str → D → Option D) (r : V → List V → Hp → VK → Prop) : Prop := ∀ H α μ a y d z Q, Stor C H α μ → RpT C.K H (Own α μ) y d → op a d = some z → (∀ v H', Same H H' → Rp C.K H' (Own α μ) v z → Q v H') → r (.str a) [y] H Q
def MeS0 (C : Cv) (op : Str → Option D) (r : V → List V → Hp → VK → Prop) : Prop := ∀ H α μ a z Q, Stor C H α μ → op a = some z → (∀ v H', Same H H' → Rp C.K H' (Own α μ) v z → Q v H') → r (.str a) [] H Q
theorem m1_rd {op : Str → D → Option D} {r : V → List V → Hp → VK → Prop} {f g : EF} {σ : L2.St} {Q : VK} (hs : MeS C op r) (q : tD C E (eM1 op f g) σ H Q) : tM1 r (tD C E f) (tD C E g) σ H Q := by
  obtain ⟨ρ, α, μ, S, sl, q⟩ := q
  refine tD_bind S sl q fun v w H1 α1 μ1 st1 S1 sl1 r1 q1 => ?_
  split at q1
  · rename_i a
    cases r1
    refine ⟨⟨a, rfl⟩, tD_bind S1 sl1 q1 fun u w2 H2 α2 μ2 st2 S2 sl2 r2 q2 => ?_⟩
    obtain ⟨z, e, q3⟩ := PQ.ofO q2
    cases e1 : view μ2 w2 with
    | none => rw [e1] at e; cases e
    | some d =>
      simp only [e1, Option.bind_some] at e
      cases e2 : op a d with
      | none => rw [e2] at e; cases e
      | some d2 =>
        rw [e2] at e
        cases e
        exact hs H2 α2 μ2 a u d d2 Q S2 (r2.view S2 e1) e2 fun v H' sm rv => q3 v H' α2 (Same.step S2 sm) (S2.same sm) rv
  · exact (show False from q1).elim
theorem m0_rd {op : Str → Option D} {r : V → List V → Hp → VK → Prop} {f : EF} {σ : L2.St} {Q : VK} (hs : MeS0 C op r) (q : tD C E (eM0 op f) σ H Q) : tM0 r (tD C E f) σ H Q := by
  obtain ⟨ρ, α, μ, S, sl, q⟩ := q
  refine tD_bind S sl q fun v w H1 α1 μ1 st1 S1 sl1 r1 q1 => ?_
  split at q1
  · rename_i a
    cases r1
    refine ⟨⟨a, rfl⟩, ?_⟩
    obtain ⟨z, e, q3⟩ := PQ.ofO q1
    cases e2 : op a with
    | none => rw [e2] at e; cases e
    | some d2 =>
      rw [e2] at e
      cases e
      exact hs H1 α1 μ1 a d2 Q S1 e2 fun v H' sm rv => q3 v H' α1 (Same.step S1 sm) (S1.same sm) rv
  · exact (show False from q1).elim
theorem ms_new {ys : List Str} {Q : VK} (S : Stor C H α μ) (q : ∀ v H', Same H H' → Rp C.K H' (Own α μ) v (.list (ys.map PyData.str)) → Q v H') : rNewStrs ys H Q := fun p np => by
  obtain ⟨sm, rp⟩ := rp_newL S np (rpAll_strs ys)
  exact q _ _ sm rp
theorem ms_upper : MeS0 C mUpper (fun x xs H Q => ∃ a, x = .str a ∧ xs = [] ∧ a.length ≤ 5592405 ∧ Q (.str (Txt.upper a)) H) := by
  intro H α μ a z Q S e q
  unfold mUpper at e
  split at e
  · rename_i hl
    cases e
    exact ⟨a, rfl, rfl, Nat.le_trans hl (by decide), q _ H (.refl H) (.str _)⟩
  · cases e
theorem ms_split : MeS C mSplit (fun x xs H Q => ∃ a b, x = .str a ∧ xs = [.str b] ∧ (b.length == 0) = false ∧ a.length + 2 ≤ sizeLine ∧ rNewStrs (Txt.split a b) H Q) := by
  intro H α μ a y d z Q S r e q
  unfold mSplit at e
  split at e
  · rename_i b
    split at e
    · rename_i hh
      cases e
      have hy := r.str
      subst hy
      exact ⟨a, b, rfl, rfl, by simpa using hh.1, Nat.le_trans (Nat.add_le_add_right hh.2 2) (by decide), ms_new S q⟩
    · cases e
  · cases e
theorem ms_join : MeS C mJoin (fun x xs H Q => ∃ a p, ∃ ys : List Str, x = .str a ∧ xs = [.ref p] ∧ (SqL C.K H p (ys.map V.str) ∨ SqT C.K H p (ys.map V.str)) ∧
    (ys.map (·.length)).sum + ys.length * a.length ≤ 16777216 ∧ Q (.str (Txt.join a ys)) H) := by
  intro H α μ a y d z Q S r e q
  unfold mJoin at e
  split at e
  · rename_i l
    cases e1 : strsOf l with
    | none => rw [e1] at e; cases e
    | some ys =>
      rw [e1] at e
      simp only [Option.bind_some] at e
      split at e
      · rename_i hj
        cases e
        obtain ⟨p1, xs, rfl, h1, r1⟩ := r.list
        have hx := r1.strs e1
        subst hx
        exact ⟨a, p1, ys, rfl, rfl, .inl (.inl h1), Nat.le_trans hj (by decide), q _ H (.refl H) (.str _)⟩
      · cases e
  · rename_i l
    cases e1 : strsOf l with
    | none => rw [e1] at e; cases e
    | some ys =>
      rw [e1] at e
      simp only [Option.bind_some] at e
      split at e
      · rename_i hj
        cases e
        obtain ⟨p1, xs, rfl, h1, r1⟩ := r.tuple
        have hx := r1.strs e1
        subst hx
        exact ⟨a, p1, ys, rfl, rfl, .inr h1, Nat.le_trans hj (by decide), q _ H (.refl H) (.str _)⟩
      · cases e
  · cases e
end
section
variable {X : Cx} {T : List (Addr × Str)} {E : XK} {j : Nat} {pos apos : Pos} {tg a b c : Expr} {f g h : EF}
theorem de_m1 {id : String} {name : Str} {op : Str → D → Option D} {r : V → List V → Hp → VK → Prop} (slot : Slot "str" name id) (ty : typeOf (.builtin id) = pure (.type "method_descriptor")) (rule : MtR X id r) (hm : MeS (CvX X T) op r) (ha : DE X T E a f) (hb : DE X T E b g)
    (hs : starEach [b] X.env = [(false, eval b X.env)] := by rfl) (hbase : attributeBase a name X.env (eval a X.env) = eval a X.env := by rfl) (hline : (apos.endLine == pos.line) = true := by rfl) : DE X T E (.Call (.Attribute a name apos) [b] [] pos) (eM1 op f g) :=
  pe_imp (pe_m1 slot ty rule ha hb hs hbase hline) fun σ H Q q => m1_rd hm q
theorem de_m0 {id : String} {name : Str} {op : Str → Option D} {r : V → List V → Hp → VK → Prop} (slot : Slot "str" name id) (ty : typeOf (.builtin id) = pure (.type "method_descriptor")) (rule : MtR X id r) (hm : MeS0 (CvX X T) op r) (ha : DE X T E a f)
    (hbase : attributeBase a name X.env (eval a X.env) = eval a X.env := by rfl) (hline : (apos.endLine == pos.line) = true := by rfl) : DE X T E (.Call (.Attribute a name apos) [] [] pos) (eM0 op f) :=
  pe_imp (pe_m0 slot ty rule ha hbase hline) fun σ H Q q => m0_rd hm q
theorem de_split (ha : DE X T E a f) (hb : DE X T E b g) (hs : starEach [b] X.env = [(false, eval b X.env)] := by rfl) (hbase : attributeBase a "split" X.env (eval a X.env) = eval a X.env := by rfl) (hline : (apos.endLine == pos.line) = true := by rfl) :
    DE X T E (.Call (.Attribute a "split" apos) [b] [] pos) (eM1 mSplit f g) := de_m1 PySem.F.slot_str_split PySem.F.type_str_split mt_split ms_split ha hb hs hbase hline
theorem de_upper (ha : DE X T E a f) (hbase : attributeBase a "upper" X.env (eval a X.env) = eval a X.env := by rfl) (hline : (apos.endLine == pos.line) = true := by rfl) :
    DE X T E (.Call (.Attribute a "upper" apos) [] [] pos) (eM0 mUpper f) := de_m0 PySem.F.slot_str_upper PySem.F.type_str_upper mt_upper ms_upper ha hbase hline
theorem de_join (ha : DE X T E a f) (hb : DE X T E b g) (hs : starEach [b] X.env = [(false, eval b X.env)] := by rfl) (hbase : attributeBase a "join" X.env (eval a X.env) = eval a X.env := by rfl) (hline : (apos.endLine == pos.line) = true := by rfl) :
    DE X T E (.Call (.Attribute a "join" apos) [b] [] pos) (eM1 mJoin f g) := de_m1 PySem.F.slot_str_join PySem.F.type_str_join mt_join ms_join ha hb hs hbase hline
end
/-! ### zip -/
theorem zip_at {l r : List D} {i : Nat} {d : D} (h : ((l.zip r).map fun p => PyData.tuple [p.1, p.2])[i]? = some d) : ∃ x y, l[i]? = some x ∧ r[i]? = some y ∧ d = .tuple [x, y] := by
  rw [List.getElem?_map] at h
  cases e : (l.zip r)[i]? with
  | none => rw [e] at h; cases h
  | some p =>
    rw [e] at h
    cases h
    obtain ⟨h1, h2⟩ := List.getElem?_zip_eq_some.mp (show (l.zip r)[i]? = some (p.1, p.2) from e)
    exact ⟨p.1, p.2, h1, h2, rfl⟩
theorem yields_zip {C : Cv} {H : Hp} {M : Addr → Prop} {a b : Addr} {xs ys : List V} {l r : List D} (hx : Rd H a (.lst xs)) (nx : ¬ M a) (rx : RpAll C.K H M xs l) (hy : Rd H b (.lst ys)) (ny : ¬ M b) (ry : RpAll C.K H M ys r) :
    Yields C (Itz C.K a b) ((l.zip r).map fun p => .tuple [p.1, p.2]) H M := by
  intro i H2 M2 st fr
  have h2 : SqL C.K H2 a xs := .inl (st.rd hx nx).1
  have h3 : SqL C.K H2 b ys := .inl (st.rd hy ny).1
  have r2 := rx.ext st
  have r3 := ry.ext st
  refine ⟨fun d e => ?_, fun h => ⟨xs, ys, h2, h3, ?_⟩⟩
  · obtain ⟨x, y, e1, e2, rfl⟩ := zip_at e
    obtain ⟨v, h4, h5⟩ := r2.get e1
    obtain ⟨u, h6, h7⟩ := r3.get e2
    refine ⟨⟨xs, ys, v, u, h2, h3, h4, h6⟩, fun z H' yy => ?_⟩
    obtain ⟨T, x', y', rfl, nT, rfl, g1, g2⟩ := yy
    have e3 := g1 xs h2
    have e4 := g2 ys h3
    rw [h4] at e3; cases e3
    rw [h6] at e4; cases e4
    exact rp_newT nT (.cons h5 (.cons h7 .nil))
  · rw [r2.length, r3.length]
    rw [List.length_map, List.length_zip] at h
    omega
def DIH (X : Cx) (T : List (Addr × Str)) (E : XK) (tg e : Expr) (it : IF) : Prop := L2H.PIH X tg e (tI (CvX X T) E it)
section
variable {X : Cx} {T : List (Addr × Str)} {E : XK} {j : Nat} {pos : Pos} {tg a b c : Expr} {f g h : EF}
theorem zip_rd {σ : L2.St} {H : Hp} {R' : It → Hp → Prop} (q : tI (CvX X T) E (iZipD f g) σ H R') : iZip X.K (tCons (tD (CvX X T) E f) (tCons (tD (CvX X T) E g) tNil)) σ H R' := by
  obtain ⟨ρ, α, μ, S, sl, q⟩ := q
  refine tD_bindI S sl q fun v w H1 α1 μ1 st1 S1 sl1 r1 q1 => ?_
  refine tD_bindI S1 sl1 q1 fun u w2 H2 α2 μ2 st2 S2 sl2 r2 q2 => ?_
  split at q2
  · rename_i l0 μ0 e0
    split at e0
    · rename_i l r
      split at e0
      · rename_i hl
        cases e0
        have r1' := r1.step st2
        cases r1' with
        | lst h1 n1 rr1 =>
          cases r2 with
          | lst h2 n2 rr2 =>
            refine ⟨_, _, _, _, rfl, .inl h1, .inl h2, q2 _ H2 α2 (.refl _ _ _) S2 ?_ (yields_zip h1 n1 rr1 h2 n2 rr2)⟩
            rw [List.length_map, List.length_zip]
            exact Nat.le_trans (Nat.min_le_left _ _) (Nat.le_trans hl (by decide))
      · cases e0
    · cases e0
  · rename_i x0 μ0 e0
    split at e0
    · split at e0 <;> cases e0
    · cases e0
  · exact q2.elim
theorem di_zip {p tpos : Pos} {elts : List Expr} {kk : Nat} (ha : DE X T E a f) (hb : DE X T E b g) (hm : X.mg "zip" = none) (hg : Gl X "zip" := by rfl)
    (hs : starEach [a, b] X.env = (false, eval a X.env) :: starEach [b] X.env := by rfl) (hs2 : starEach [b] X.env = (false, eval b X.env) :: starEach [] X.env := by rfl) (hpl : (backTo pos (starEach [b] X.env)).any (·.1) = false := by rfl) :
    DI X T E (.Tuple elts kk tpos) (.Call (.Name "zip" p) [a, b] [] pos) (iZipD f g) :=
  pi_imp (pi_zip hg hm (pa_cons ha (pa_cons hb pa_nil hs2) hs) hs hpl) fun σ H R' q => zip_rd q
theorem di_zipH {p tpos : Pos} {elts : List Expr} {kk : Nat} (ha : DE X T E a f) (hb : DE X T E b g) (hm : X.mg "zip" = none) (hg : Gl X "zip" := by rfl)
    (hs : starEach [a, b] X.env = (false, eval a X.env) :: starEach [b] X.env := by rfl) (hs2 : starEach [b] X.env = (false, eval b X.env) :: starEach [] X.env := by rfl) (hpl : (backTo pos (starEach [b] X.env)).any (·.1) = false := by rfl) :
    DIH X T E (.Tuple elts kk tpos) (.Call (.Name "zip" p) [a, b] [] pos) (iZipD f g) :=
  ⟨fun pins s σ H R' I q => (HotY.pi_zipH hg hm (pa_cons ha (pa_cons hb pa_nil hs2) hs) hs hpl).run pins s σ H R' I (zip_rd q)⟩
/-! ### while an exception is handled -/
theorem dg_tupH {ts : List TF} {es : List Expr} {k : Nat} {ks : List Nat} (hc : L2H.HotC X) (h : DGs X T es ts ks) (hn : (assignEach es X.env).length = es.length := by rfl) (hst : (assignEach es X.env).findIdx? (·.1) = none := by rfl) : DG X T (.Tuple es k pos) (Mi.tTup ts) ks :=
  pg_imp (HotY.pg_tupH hc h.pgs hn hst) fun v σ H Q ⟨ρ, α, μ, d, ρ1, S, sl, r, e, q⟩ => by
    unfold Mi.tTup at e
    split at e
    · rename_i ds
      obtain ⟨p1, ys, rfl, h1, r1⟩ := RpT.tuple (.inl r)
      exact ⟨p1, ys, rfl, h1, by rw [r1.length, h.len, tTups_len e], ρ, α, μ, ds, ρ1, S, sl, r1, e, q⟩
    · cases e
theorem de_lcH {it : IF} {t : TF} {ks : List Nat} {elt iter : Expr} {ifs : List Expr} {scope : Scope} {own : List (Str × Nat)} {p0 : Addr × Obj} (hot : L2H.Hot1 X.A p0) (hp0 : p0 ∈ X.pn) (nd : X.N.Nodup) (hi : DIH X T E tg iter it) (ok : BlkOk X.N X.env.scope scope own)
    (hg : ∀ (s : Shared) (H : Hp) (D : Addr) (cl : List (Str × Addr)) (fp : List Addr), DG (HotY.blkH X p0 s H scope (compEnvC scope cl D X.env) fp) T tg t ks)
    (ht : ∀ (s : Shared) (H : Hp) (D : Addr) (cl : List (Str × Addr)) (fp : List Addr), DC (HotY.blkH X p0 s H scope (compEnvC scope cl D X.env) fp) T ifs f)
    (he : ∀ (s : Shared) (H : Hp) (D : Addr) (cl : List (Str × Addr)) (fp : List Addr), DE (HotY.blkH X p0 s H scope (compEnvC scope cl D X.env) fp) T E0 elt g)
    (hw : ∀ k ∈ ks, k ∈ own.map (·.2) := by decide) (hs : ∀ x, foldedSetIterable iter X.env x = pure x := by intro _; rfl) :
    DE X T E (.ListComp elt [⟨tg, iter, ifs, 0⟩] scope pos) (eLc (own.map (·.2)) t it f g) :=
  pe_imp (HotY.pe_lcH (g := tG (CvX X T) t ks) (tt := fun σ H Q => tD (CvX X T) E0 f σ H fun v H1 => ∃ b, v = .bl b ∧ Q b H1) (te := tD (CvX X T) E0 g) hot hp0 nd hi ok hg (fun s H D cl fp => (ht s H D cl fp).pts) (fun s H D cl fp => he s H D cl fp) hs) fun σ H Q q => lc_rd hw q
/-- isinstance of the error that is pinned -/
theorem de_isX {x y : Str} {p p2 : Pos} {a0 D : Addr} {oe : Obj} {bb : Bool} {c : V} {cv : Value} (C : ExcC X.K D) (hz : Zc (.ref D) none oe) (hfl : ∃ vs, oe.data = .fields vs) (hp : (a0, oe) ∈ X.pn) (hm : X.mg x = none) (hv : bootBuiltins x = some (.builtin "isinstance"))
    (hc : PE X (.Name y p2) (tC c)) (hcv : ∀ u, RelV c u → u = cv) (hb : PySem.W.kitOne X.K (.ref D) cv = some bb) (ha : DE X T E a f)
    (hg : Gl X x := by rfl) (hn : x ≠ "__name__" := by decide) (hdb : (x == ("__debug__" : Str)) = false := by decide)
    (he : starEach (a :: [.Name y p2]) X.env = (false, eval a X.env) :: starEach [.Name y p2] X.env := by rfl) (hpl : (backTo pos (starEach [.Name y p2] X.env)).any (·.1) = false := by rfl) (he2 : starEach [.Name y p2] X.env = (false, eval (.Name y p2) X.env) :: starEach [] X.env := by rfl) :
    DE X T E (.Call (.Name x p) [a, .Name y p2] [] pos) (eIsX a0 bb f) :=
  pe_imp (pe_callB (HotY.call_isP C hz hfl hp) hg hm hv (pa_cons ha (pa_cons hc pa_nil he2) he) hn hdb he hpl) fun σ H Q ⟨ρ, α, μ, S, sl, q⟩ => tD_bind S sl q fun v w H1 α1 μ1 st S1 sl1 rv q1 => by
    split at q1
    · rename_i k
      split at q1
      · rename_i hk
        subst hk
        obtain rfl := rv
        exact ⟨c, cv, bb, rfl, hcv, hb, PQ.bl S1 q1⟩
      · exact (show False from q1).elim
    · exact (show False from q1).elim
end
end L3

set_option Elab.async false
set_option linter.all false
set_option maxRecDepth 100000
set_option maxHeartbeats 2000000
/-! enumerate over a tuple or a list. -/
namespace EnY
open PySem PySem.Spec PyProof.Rows L2
set_option maxHeartbeats 4000000 in
theorem meets_enumerate_newT {v : Value} {o : Obj} {H : Heap → Prop} (B : Begins v o H) :
    Meets (Builtin.«enumerate.__new__» ⟨[.type "enumerate", v], []⟩) (fun _ R s => H s.heap ∧
      R (.ok (.ret (.ref (s.heap.push o).objs.size))) { s with heap := (s.heap.push o).push { cls := .type "enumerate", data := .fields #[.none, .bool false, .ref s.heap.objs.size, rawInt 0, .none, .none] } }) :=
  .of_wp fun prog w A R s h => by
    obtain ⟨hp, g, d, tk, os⟩ := s; obtain ⟨h1, h⟩ := h
    have hsub := sub_enumerate
    have q1 : ∀ {A' : Around} {E : Value → Shared → Prop} {Q : Value → Shared → Prop}, Q (.ref hp.objs.size) ⟨hp.push o, g, d, tk, os⟩ → wpAny (model prog w) A' (pyIter v) Q E ⟨hp, g, d, tk, os⟩ :=
      fun q => B.iter prog w _ _ ⟨hp, g, d, tk, os⟩ _ h1 q
    wp_walk using q1
    refine wpAny_stack_any fun st => wpAny_pure ?_
    split
    · rename_i c _ _ _ _ _
      cases (c == Value.type "enumerate")
      · wp_walk using q1
        exact ⟨_, rfl, h⟩
      · wp_walk using q1
        exact ⟨_, rfl, h⟩
    · wp_walk using q1
      exact ⟨_, rfl, h⟩
theorem enum_begin1 {prog : Program} {w : World} {A : Around} {E : Value → Shared → Prop} {s : Shared} {v : Value} {o : Obj} {H : Heap → Prop} {Q : Value → Shared → Prop} (B : Begins v o H) (h1 : H s.heap)
    (h : ∀ h', IsEnum h' (s.heap.objs.size + 1) s.heap.objs.size 0 .none → h'.get? s.heap.objs.size = some o → h'.objs.size = s.heap.objs.size + 2 →
      (∀ b o, s.heap.get? b = some o → h'.get? b = some o) → Q (.ref (s.heap.objs.size + 1)) { s with heap := h' }) :
    wpAny (model prog w) A (call (.type "enumerate") [v]) Q E s := by
  refine callType_new F.called_enumerate (by decide) (F.typeCall_enumerate_1 _) (F.newCall_enumerate_1 _) (fun obj => F.args_object_init_2 obj _) F.entry_enumerate_new
    (meets_enumerate_newT B) ⟨h1, ?_⟩
  have hz : (s.heap.push o).objs.size = s.heap.objs.size + 1 := Heap.size_push ..
  show _ ∧ _
  rw [hz]
  have he : IsEnum ((s.heap.push o).push { cls := .type "enumerate", data := .fields #[.none, .bool false, .ref s.heap.objs.size, rawInt 0, .none, .none] }) (s.heap.objs.size + 1) s.heap.objs.size 0 .none := by
    have := Heap.get?_push_size (s.heap.push o) (o := { cls := .type "enumerate", data := .fields #[.none, .bool false, .ref s.heap.objs.size, rawInt 0, .none, .none] }) rfl
    rw [hz] at this; exact this
  refine ⟨⟨_, he, rfl⟩, h _ he (Heap.get?_push_of_some _ (Heap.get?_push_size _ B.free)) (by rw [Heap.size_push, hz]) fun b o x => Heap.get?_push_of_some _ (Heap.get?_push_of_some _ x)⟩
/-- next of enumerate(tuple) at the end -/
theorem tup_end {prog : Program} {w : World} {A : Around} {E : Value → Shared → Prop} {s : Shared} {e it l : Addr} {i : Nat} {items : Array Value} {old : Value} {Q : Option Value → Shared → Prop} (hh : A.handled = none)
    (he : IsEnum s.heap e it i old) (hit : s.heap.IsTupleIter it l i) (hl : s.heap.IsTuple l items) (hx : items[i]? = none)
    (hQ : ∀ h', Heap.ExtBut it s.heap h' → Q none { s with heap := h' }) : wpAny (model prog w) A (pyNext (.ref e)) Q E s := by
  have hT : s.TypeIs (.ref e) "enumerate" := ⟨_, he, rfl⟩
  unfold pyNext
  refine wpAny_bind (wpAny_attempt (wpAny_callSpecial?_slot (name := Str.ofString "__next__") hT F.slot_enumerate_next
    (wpAny_call_entry F.slot_enumerate_next hT F.entry_enumerate_next ?_ (F.args_enumerate_next_1 _))))
  show wpAny _ _ (field (.ref e) 2 >>= _) _ _ _
  refine wpAny_bind (wpAny_field he rfl (x := .ref it) rfl ?_)
  refine wpAny_bind (wpAny_nextOf_tuple_end hh hit hl hx fun h' x he' hx' => ?_)
  obtain ⟨o, ho, hc⟩ := hx'
  refine wpAny_bind (wpAny_isInstance (T := "StopIteration") (b := true) ⟨o, ho, hc⟩ isSubtype_stop ?_)
  exact wpAny_pure (hQ _ he')
/-- the tuple at a, each item in a new pair -/
def IteT (K : PySem.W.Frag) (a : Addr) : It :=
  ⟨fun i H => ∃ (xs : List V) (x : V), SqT K H a xs ∧ xs[i]? = some x, fun i H v H' => ∃ T x, v = .ref T ∧ H T = none ∧ H' = upd H T (.tup [.int (i : Nat), x]) ∧ ∀ xs, SqT K H a xs → xs[i]? = some x, fun i H => ∃ xs : List V, SqT K H a xs ∧ xs.length ≤ i⟩
theorem turn_enumT {P : Program} {w : World} {K : PySem.W.Frag} {elts : List Expr} {kk : Nat} {tpos : Pos} (a e it : Addr) :
    Turn P w K (.Tuple elts kk tpos) (IteT K a) [e, it] e (fun i h => (∃ old, IsEnum h e it ((i : Nat) : Int) old) ∧ h.IsTupleIter it a i ∧ e ≠ it) where
  mem := by simp
  obj := fun i h st b hb => by
    obtain ⟨⟨old, he⟩, ⟨o, ho, hc, hd⟩, _⟩ := st
    have e' : b = e ∨ b = it := by simpa using hb
    rcases e' with z | z
    · rw [z]; exact ⟨_, he, fun v q => nomatch q⟩
    · rw [z]; exact ⟨o, ho, fun v q => by rw [hd] at q; cases q⟩
  keep := fun i h h' st k => let ⟨⟨old, he⟩, hi, hne⟩ := st; ⟨⟨old, k e (by simp) _ he⟩, hi.at fun o q => k it (by simp) o q, hne⟩
  item := by
    intro X hP hw hK hc i pins s σ H E I hf st hg
    subst hP hw hK
    obtain ⟨⟨old, he⟩, hit, hne⟩ := st
    obtain ⟨xs, x, hq, hx⟩ := hg
    obtain ⟨its, rv, p, hz⟩ := I.tuple hq
    obtain ⟨u, hu, ru⟩ := rv.get hx
    have hel : e < s.heap.objs.size := Heap.lt_size he
    have hil : it < s.heap.objs.size := by obtain ⟨_, q, _⟩ := hit; exact Heap.lt_size q
    have hta : a ≠ it := fun z => by
      obtain ⟨o1, h1, c1, _⟩ := p
      obtain ⟨o2, h2, c2, _⟩ := hit
      rw [z, h2] at h1; cases h1
      rw [c1] at c2
      injection c2 with c3
      exact absurd c3 (by decide)
    have D := Draws.tuple (prog := X.prog) (w := X.w) (A := X.A.in1) (I.ok.hd hc) it a hta its.toArray
    have hne2 : e ≠ a := fun z => by
      obtain ⟨o1, h1, c1, _⟩ := p
      rw [← z, he] at h1; cases h1
      injection c1 with c3
      exact absurd c3 (by decide)
    have hlt : i < its.toArray.size := by
      have := (List.getElem?_eq_some_iff.mp hu).1
      simpa using this
    refine wpAny_pyNext_enum_itemD D he ⟨hit, p⟩ hlt hne (by simp [hne, hne2]) fun x' h' tk hP ho hs' hT hsz hk => ?_
    have ex : x' = u := by
      have hP : its.toArray[i]? = some x' := hP
      rw [List.getElem?_toArray, hu] at hP
      exact (Option.some.inj hP).symm
    subst ex
    refine ⟨_, rfl, wpAny_letOwnedTupleGo_enum (s := { s with heap := h', toks := tk + 1 }) ho fun h'' he' sb => ?_⟩
    have hT2 : h''.get? s.heap.objs.size = some { cls := .type "tuple", data := .seq #[.int i tk, x'] } := (sb.2 _ (Nat.ne_of_gt hel)).trans hT
    have new : ObjOk X.prog X.w (upd H s.heap.objs.size (.tup [.int (i : Nat), x])) h'' s.heap.objs.size (.tup [.int (i : Nat), x]) :=
      ⟨by show 2 ≤ sizeLine; decide, [.int i tk, x'], .cons ⟨_, rfl⟩ (.cons ru .nil), ⟨_, hT2, rfl, _, rfl⟩⟩
    have I1 : Inv X pins σ (upd H s.heap.objs.size (.tup [.int (i : Nat), x])) { s with heap := h'', toks := tk + 1 } :=
      I.turnedNew (ch := [e, it]) (fun b ob hb q => (sb.2 b (fun z => hb (by simp [z]))).trans (hk b ob (fun z => hb (by simp [z])) (fun z => hb (by simp [z])) q)) hf (Nat.le_refl _) new
    refine ⟨.ref s.heap.objs.size, _, I1, rfl, ⟨_, x, rfl, I.hok.fresh (Nat.le_refl _), rfl, fun ys hy => by rw [I.tuple_inj hy hq]; exact hx⟩, ⟨⟨x', ?_⟩, hs'.1.at fun o q => (sb.2 it (Ne.symm hne)).trans q, hne⟩, fun b hb => ?_⟩
    · have e1 : ((i + 1 : Nat) : Int) = (i : Int) + 1 := by omega
      rw [e1]; exact he'
    · have hb' : b < s.heap.objs.size := by
        have e' : b = e ∨ b = it := by simpa using hb
        rcases e' with z | z
        · rw [z]; exact hel
        · rw [z]; exact hil
      rw [upd_ne (Nat.ne_of_lt hb')]
      exact (hf b hb).1
  done := by
    intro X hP hw hK hc i pins s σ H E I hf st hg
    subst hP hw hK
    obtain ⟨⟨old, he⟩, hit, hne⟩ := st
    obtain ⟨xs, hq, hx⟩ := hg
    obtain ⟨its, rv, p, hz⟩ := I.tuple hq
    obtain ⟨f0, f1, f2, f3, f4, f5⟩ := hf it (by simp)
    have hl := rv.length
    exact tup_end (I.ok.hd hc) he hit p (by simp; omega) fun h' eb => ⟨rfl, I.turned (t' := s.toks) (fun b o hb q => eb b o hb q) f0 f1 f3 f4 f5⟩
  self := fun A i s Q E st h => let ⟨⟨_, he⟩, _⟩ := st; wpAny_pyIter_enum he h
def iEnumT (K : PySem.W.Frag) (ta : TA) : TI := fun σ H R => ta σ H fun vs H1 => ∃ a xs, vs = [.ref a] ∧ ((SqL K H1 a xs ∧ R (Ite K a) H1) ∨ (SqT K H1 a xs ∧ R (IteT K a) H1))
theorem pi_enumT {X : Cx} {e : Expr} {ta : TA} {p pos tpos : Pos} {elts : List Expr} {kk : Nat} (hg : Gl X "enumerate") (hm : X.mg "enumerate" = none) (ha : PA X [e] ta) (hs : starEach [e] X.env = [(false, eval e X.env)] := by rfl) :
    PI X (.Tuple elts kk tpos) (.Call (.Name "enumerate" p) [e] [] pos) (iEnumT X.K ta) := by
  refine ⟨fun pins s σ H R I h => ?_⟩
  refine Call_ (ld_blt I hg hm boot_enumerate (PyProof.Rows.callWith_type1 (thn (ha.run pos pins s σ H _ I h) fun us s1 ⟨vs, H1, I1, r1, q1⟩ => ?_) hs rfl))
  obtain ⟨a, xs, ex, q1⟩ := q1
  subst ex
  cases r1 with
  | cons r rr =>
    cases rr
    cases r
    have fp : ∀ b, b ∈ [s1.heap.objs.size + 1, s1.heap.objs.size] → FpOk X pins H1 b := fun b hb => by
      have e' : b = s1.heap.objs.size + 1 ∨ b = s1.heap.objs.size := by simpa using hb
      have hle : s1.heap.objs.size ≤ b := by
        rcases e' with z | z
        · rw [z]; exact Nat.le_add_right _ _
        · rw [z]; exact Nat.le_refl _
      exact I1.fpOk hle (I1.hok.fresh hle)
    rcases q1 with ⟨hq, q⟩ | ⟨hq, q⟩
    · obtain ⟨its, rv, p', hz⟩ := I1.list hq
      refine call_enumerate_list p'.isList fun h' he hit hsz hk => wpAny_pyIter_enum he ?_
      have I2 : Inv X pins σ H1 { s1 with heap := h' } := I1.kept (t' := s1.toks) hk
      exact ⟨s1.heap.objs.size + 1, [s1.heap.objs.size + 1, s1.heap.objs.size], _, _, H1, rfl, I2, turn_enum a (s1.heap.objs.size + 1) s1.heap.objs.size, ⟨⟨.none, he⟩, hit, Nat.succ_ne_self _⟩, fp, q⟩
    · obtain ⟨its, rv, p', hz⟩ := I1.tuple hq
      refine enum_begin1 (begins_tuple a its.toArray) p' fun h' he hit hsz hk => wpAny_pyIter_enum he ?_
      have I2 : Inv X pins σ H1 { s1 with heap := h' } := I1.kept (t' := s1.toks) hk
      exact ⟨s1.heap.objs.size + 1, [s1.heap.objs.size + 1, s1.heap.objs.size], _, _, H1, rfl, I2, turn_enumT a (s1.heap.objs.size + 1) s1.heap.objs.size, ⟨⟨.none, he⟩, ⟨_, hit, rfl, rfl⟩, Nat.succ_ne_self _⟩, fp, q⟩
end EnY
namespace L3
open PySem PySem.Spec PyProof.Rows L2 Mi
theorem enum_at {l : List D} {i : Nat} {d : D} (h : (enumD l)[i]? = some d) : ∃ x, l[i]? = some x ∧ d = .tuple [.int (i : Nat), x] := by
  unfold enumD at h
  rw [List.getElem?_map, List.getElem?_zipIdx] at h
  cases e : l[i]? with
  | none => rw [e] at h; cases h
  | some x =>
    rw [e] at h
    cases h
    exact ⟨x, rfl, by simp⟩
theorem enum_len (l : List D) : (enumD l).length = l.length := by simp [enumD]
section
variable {C : Cv} {E : XK} {H : Hp} {α : Al} {μ : Sto}
theorem yields_enumL {M : Addr → Prop} {a : Addr} {xs : List V} {ds : List PyData} (hx : Rd H a (.lst xs)) (n : ¬ M a) (r : RpAll C.K H M xs ds) : Yields C (Ite C.K a) (enumD ds) H M := by
  intro i H2 M2 st _
  have h2 : SqL C.K H2 a xs := .inl (st.rd hx n).1
  have r2 := r.ext st
  refine ⟨fun d e => ?_, fun h => ⟨xs, h2, by rw [r2.length]; rw [enum_len] at h; exact h⟩⟩
  obtain ⟨x, e1, rfl⟩ := enum_at e
  obtain ⟨v, h3, h4⟩ := r2.get e1
  refine ⟨⟨xs, v, h2, h3⟩, fun z H' yy => ?_⟩
  obtain ⟨T, x', rfl, nT, rfl, g1⟩ := yy
  have e3 := g1 xs h2
  rw [h3] at e3; cases e3
  exact rp_newT nT (.cons (.int _) (.cons h4 .nil))
theorem yields_enumT {M : Addr → Prop} {a : Addr} {xs : List V} {ds : List PyData} (hx : SqT C.K H a xs) (r : RpAll C.K H M xs ds) : Yields C (EnY.IteT C.K a) (enumD ds) H M := by
  intro i H2 M2 st _
  have h2 : SqT C.K H2 a xs := st.sqT hx
  have r2 := r.ext st
  refine ⟨fun d e => ?_, fun h => ⟨xs, h2, by rw [r2.length]; rw [enum_len] at h; exact h⟩⟩
  obtain ⟨x, e1, rfl⟩ := enum_at e
  obtain ⟨v, h3, h4⟩ := r2.get e1
  refine ⟨⟨xs, v, h2, h3⟩, fun z H' yy => ?_⟩
  obtain ⟨T, x', rfl, nT, rfl, g1⟩ := yy
  have e3 := g1 xs h2
  rw [h3] at e3; cases e3
  exact rp_newT nT (.cons (.int _) (.cons h4 .nil))
end
section
variable {X : Cx} {T : List (Addr × Str)} {E : XK} {pos : Pos} {a : Expr} {f : EF}
theorem enum_rd {σ : L2.St} {H : Hp} {R' : It → Hp → Prop} (q : tI (CvX X T) E (iEnumD f) σ H R') : EnY.iEnumT X.K (tCons (tD (CvX X T) E f) tNil) σ H R' := by
  obtain ⟨ρ, α, μ, S, sl, q⟩ := q
  refine tD_bindI S sl q fun v w H1 α1 μ1 st1 S1 sl1 r1 q1 => ?_
  split at q1
  · rename_i l0 μ0 e0
    split at e0
    · rename_i l
      split at e0
      · rename_i hl
        cases e0
        cases r1 with
        | tup h1 rr1 => exact ⟨_, _, rfl, .inr ⟨h1, q1 _ H1 α1 (.refl _ _ _) S1 (by rw [enum_len]; exact Nat.le_trans hl (by decide)) (yields_enumT h1 rr1)⟩⟩
      · cases e0
    · rename_i l
      split at e0
      · rename_i hl
        cases e0
        cases r1 with
        | lst h1 n1 rr1 => exact ⟨_, _, rfl, .inl ⟨.inl h1, q1 _ H1 α1 (.refl _ _ _) S1 (by rw [enum_len]; exact Nat.le_trans hl (by decide)) (yields_enumL h1 n1 rr1)⟩⟩
      · cases e0
    · cases e0
  · rename_i x0 μ0 e0
    split at e0
    · split at e0 <;> cases e0
    · split at e0 <;> cases e0
    · cases e0
  · exact q1.elim
theorem di_enum {p tpos : Pos} {elts : List Expr} {kk : Nat} (ha : DE X T E a f) (hm : X.mg "enumerate" = none) (hg : Gl X "enumerate" := by rfl)
    (hs : starEach [a] X.env = [(false, eval a X.env)] := by rfl) :
    DI X T E (.Tuple elts kk tpos) (.Call (.Name "enumerate" p) [a] [] pos) (iEnumD f) :=
  pi_imp (EnY.pi_enumT hg hm (pa_cons ha pa_nil hs) hs) fun σ H R' q => enum_rd q
end
end L3

set_option Elab.async false
set_option linter.all false
set_option maxRecDepth 100000
set_option maxHeartbeats 4000000
/-! len(set(a list of truth values)). -/
namespace SetY
open PySem PySem.Spec PyProof.Rows L2 Mi
theorem cnt_step (bs : List Bool) (b : Bool) : cntB (bs ++ [b]) = if decide (b ∈ bs) = true then cntB bs else cntB bs + 1 := by
  unfold cntB
  cases b <;> by_cases h1 : true ∈ bs <;> by_cases h2 : false ∈ bs <;> simp [h1, h2]
theorem cnt_le (bs : List Bool) : cntB bs ≤ 2 := by
  unfold cntB
  split <;> split <;> omega
section
variable {prog : Program} {w : World} {A : Around} {R : Result → Shared → Prop} {I : Addr} {fp wr : List Addr} {G : Array GenState → Array GenState → Prop} {n : Nat} {P : Nat → Value → Prop} {St : Nat → Shared → Prop}
def SB (prog : Program) (w : World) (bs : List Bool) (h : Heap) (a : Addr) : Prop := h.SetOf (PpSet.boolK prog w) a (fun k => decide (k ∈ bs)) (cntB bs)
theorem SB.at {bs : List Bool} {h h' : Heap} {a : Addr} (x : SB prog w bs h a) (k : ∀ o, h.get? a = some o → h'.get? a = some o) : SB prog w bs h' a := by
  obtain ⟨o, es, ep, tb, ho, rest⟩ := x
  exact ⟨o, es, ep, tb, k o ho, rest⟩
theorem addLoop (W : WalksS prog w A.in1 I fp wr G n P St) (a : Addr) (hSf : a ∉ fp) (bs : List Bool) (hn : bs.length = n) (hval : ∀ i v, P i v → ∃ b, bs[i]? = some b ∧ v = .bool b) :
    ∀ (k i : Nat) (s : Shared), n - i = k → i ≤ n → St i s → SB prog w (bs.take i) s.heap a →
      (∀ s', Moved (a :: wr) G s s' → SB prog w bs s'.heap a → R (.ok (.ret .none)) s') → codeAny (model prog w) A (.builtin "set.update.loop" ⟨[.ref a, .ref I], []⟩) R s := by
  have hSw : a ∉ wr := fun h => hSf (W.sub _ h)
  have up : ∀ b ∈ wr, b ∈ a :: wr := fun b hb => List.mem_cons_of_mem _ hb
  intro k
  induction k with
  | zero =>
    intro i s hk hi hst hS hR
    obtain rfl : i = n := by omega
    refine codeAny_builtin F.entry_set_update_loop ?_
    rw [Around.under_plainId F.plain_set_update_loop _]
    show wpAny _ A.in1 (pyNext (.ref I) >>= _) _ _ s
    refine wpAny_bind (W.done s _ _ hst fun s' hm => ?_)
    show wpAny _ A.in1 (ret Value.none) _ _ s'
    rw [← hn, List.take_length] at hS
    exact wpAny_pure (hR s' (hm.mono up) (hS.at fun o e => hm.heap a _ hSw e))
  | succ k ih =>
    intro i s hk hi hst hS hR
    have hlt : i < n := by omega
    refine codeAny_builtin F.entry_set_update_loop ?_
    rw [Around.under_plainId F.plain_set_update_loop _]
    show wpAny _ A.in1 (pyNext (.ref I) >>= _) _ _ s
    refine wpAny_bind (W.item i s _ _ hlt hst fun v s' hP hst' hm => ?_)
    obtain ⟨b, hb, rfl⟩ := hval i v hP
    have hS' : SB prog w (bs.take i) s'.heap a := hS.at fun o e => hm.heap a _ hSw e
    have et : bs.take (i + 1) = bs.take i ++ [b] := by rw [List.take_add_one, hb]; rfl
    show wpAny _ A.in1 (holding [Value.bool b] (setAdd a (.bool b)) >>= _) _ _ s'
    refine wpAny_bind (wpAny_holding ?_)
    unfold setAdd
    refine wpAny_holding (wpAny_bind ((PpSet.boolK prog w).pyHash (k := b) (PpSet.boolK_is prog w b) ?_))
    refine wpAny_setAddHashed_of (knd := PpSet.boolK prog w) (s := { s' with toks := s'.toks + 1 }) (PpSet.boolK_is prog w b) rfl hS' (by have := cnt_le (bs.take i); unfold scanBound; omega) fun h' hsb hS2 => ?_
    have hSi : SB prog w (bs.take (i + 1)) h' a := by
      rw [et]
      refine SetOf_congr hS2 (fun c => ?_) (cnt_step (bs.take i) b).symm
      by_cases h1 : c ∈ bs.take i <;> by_cases h2 : c = b <;> simp [h1, h2]
    refine wpAny_pure ⟨plainId_quiet F.plain_set_update_loop _, ih (i + 1) _ (by omega) hlt (W.frame _ s' _ _ hst' (Nat.le_succ _) fun c hc o e => ?_) hSi fun s2 hm2 hS3 => ?_⟩
    · rw [hsb.2 c fun z => hSf (by rw [← z]; exact hc)]; exact e
    · refine hR s2 (Moved.trans W.gtrans ((hm.mono up).then_heap (Nat.le_succ _) fun c o hc e => ?_) hm2) hS3
      rw [hsb.2 c fun z => hc (by rw [z]; exact List.mem_cons_self)]; exact e
end
theorem bools_at : ∀ {bs : List Bool} {us : List Value}, Vals (bs.map V.bl) us → ∀ (i : Nat) (v : Value), us[i]? = some v → ∃ b, bs[i]? = some b ∧ v = .bool b
  | [], _, .nil, i, v, h => by simp at h
  | b :: bs, _, .cons r t, 0, v, h => by
    cases r
    simp only [List.getElem?_cons_zero, Option.some.injEq] at h
    exact ⟨b, rfl, h.symm⟩
  | b :: bs, _, .cons r t, i + 1, v, h => by
    simp only [List.getElem?_cons_succ] at h
    exact bools_at t i v h
section
variable {prog : Program} {w : World} {A : Around} {E : Value → Shared → Prop} {s : Shared}
/-- what the set's __init__ does with the list -/
theorem set_of {l : Addr} {items : Array Value} {bs : List Bool} {Q : Value → Shared → Prop} (hh : A.handled = none) (hl : s.heap.IsList l items) (hi : Vals (bs.map V.bl) items.toList)
    (h : ∀ (h' : Heap) (tk : Nat), SB prog w bs h' s.heap.objs.size → (∀ b o, b < s.heap.objs.size → s.heap.get? b = some o → h'.get? b = some o) → Q (.ref s.heap.objs.size) { s with heap := h', toks := tk }) :
    wpAny (model prog w) A (call (.type "set") [.ref l]) Q E s := by
  obtain ⟨c, tl, hmro⟩ := F.called_set.mro
  have hmade := F.called_set.made
  have hsub := F.called_set.sub
  refine wpAny_call (codeAny_of_tree ?_)
  show wpAny _ _ (callAny (.type "set") _) _ _ _
  refine wpAny_pure ⟨Code.quiet_builtin _ (by decide +kernel), codeAny_builtin F.entry_type_call ?_⟩
  rw [Around.under_plain (weight_type_call_type "set" [.ref l] []) rfl]
  have h1 := F.called_set.notType
  have h2 := F.called_set.canCreate
  have hct := F.typeCall_set_1 (.ref l)
  repeat (any_goals (first | assumption | wp_step))
  refine codeAny_mono (code_set_new_1 (.ref l) (E := E) (Q₁ := fun v s1 => ∃ led : Bool, v = .ref s.heap.objs.size ∧ s1 = { s with heap := s.heap.push { cls := .type "set", dict := none, data := .set #[] 0 (.fresh 0 0 led) } }) fun led => ⟨led, rfl, rfl⟩) fun r s1 hr => ?_
  cases r with
  | error e => exact hr
  | ok fl =>
    cases fl with
    | ret obj =>
      obtain ⟨led, rfl, rfl⟩ := hr
      have hS : (s.heap.push { cls := .type "set", dict := none, data := .set #[] 0 (.fresh 0 0 led) }).get? s.heap.objs.size = some { cls := .type "set", dict := none, data := .set #[] 0 (.fresh 0 0 led) } := Heap.get?_push_size _ rfl
      have hT : Shared.TypeIs { s with heap := s.heap.push { cls := .type "set", dict := none, data := .set #[] 0 (.fresh 0 0 led) } } (.ref s.heap.objs.size) "set" := ⟨_, hS, rfl⟩
      have hli := F.called_set.init.lookup
      have hbi := F.called_set.init.bind (.ref s.heap.objs.size)
      repeat (any_goals (first | assumption | wp_step))
      refine codeAny_mono (codeAny_call_builtin (R := wants (fun r s2 => r = .none ∧ ∃ h' tk, s2 = { s with heap := h', toks := tk } ∧ SB prog w bs h' s.heap.objs.size ∧
          (∀ b o, b < s.heap.objs.size → s.heap.get? b = some o → h'.get? b = some o)) E) F.called_set.init.plain F.entry_set_init (check_set_init_1 hT ?_)) fun r2 s2 hr2 => ?_
      · obtain ⟨⟨ocls, odict, odata, oslots⟩, hol, hcl, nl, hdl⟩ := hl
        simp only at hcl hdl
        subst hcl; subst hdl
        have hol' : (s.heap.push { cls := .type "set", dict := none, data := .set #[] 0 (.fresh 0 0 led) }).get? l = some { cls := .type "list", dict := odict, data := .seq items nl, slots := oslots } := Heap.get?_push_of_some _ hol
        have hsls := F.sub_list_set
        have hslf := F.sub_list_frozenset
        have hne : (Value.type "list" == Value.type "dict") = false := by decide
        have hl1 : (s.heap.push { cls := .type "set", dict := none, data := .set #[] 0 (.fresh 0 0 led) }).IsList l items := ⟨_, hol', rfl, nl, rfl⟩
        unfold Builtin.«set.__init__» noKeywords Builtin.Frozenset.updateFrom
        generalize hPI : pyIter = PI
        wp_walk
        subst hPI
        refine wpAny_pyIter_list hl1 (wpAny_bind (wpAny_runValue ?_))
        have hlS : l < s.heap.objs.size := Heap.lt_size hol
        have ez : (s.heap.push { cls := .type "set", dict := none, data := .set #[] 0 (.fresh 0 0 led) }).objs.size = s.heap.objs.size + 1 := Heap.size_push ..
        have hneI : l ≠ (s.heap.push { cls := .type "set", dict := none, data := .set #[] 0 (.fresh 0 0 led) }).objs.size := by rw [ez]; exact Nat.ne_of_lt (Nat.lt_succ_of_lt hlS)
        refine addLoop ((Walks.list (by simp [hh]) _ l hneI items).toS) s.heap.objs.size (by rw [ez]; simp only [List.mem_cons, List.not_mem_nil, or_false, not_or]; exact ⟨Nat.ne_of_lt (Nat.lt_succ_self _), Nat.ne_of_gt hlS⟩) bs (by have := hi.length; simpa using this)
          (fun i v hv => bools_at hi i v (by rw [Array.getElem?_toList]; exact hv)) (items.size - 0) 0 _ (by omega) (Nat.zero_le _) ⟨⟨_, Heap.get?_push_size _ rfl, rfl, rfl⟩, (hl1.push _)⟩ ?_ fun s' hm hS' => ?_
        · exact SetOf_congr ((setObjOf_fresh (knd := PpSet.boolK prog w) led).setOf (Heap.get?_push_of_some _ hS) (by unfold scanBound; omega)) (fun _ => rfl) rfl
        · obtain ⟨h', g', d', tk', os'⟩ := s'
          obtain rfl : g' = s.gens := hm.gens
          obtain rfl : d' = s.drawn := hm.drawn
          obtain rfl : os' = s.os := hm.os
          show wpAny _ _ _ _ _ _
          refine wpAny_pure ?_
          show wpAny _ _ (ret Value.none) _ _ _
          refine wpAny_pure ⟨rfl, h', tk', rfl, hS', fun b o hb e => hm.heap b o ?_ (Heap.get?_push_of_some _ (Heap.get?_push_of_some _ e))⟩
          rw [ez]
          simp only [List.mem_cons, List.not_mem_nil, or_false, not_or]
          exact ⟨Nat.ne_of_lt hb, Nat.ne_of_lt (Nat.lt_succ_of_lt hb)⟩
      · cases r2 with
        | error e => exact hr2
        | ok fl2 =>
          cases fl2 with
          | ret r =>
            obtain ⟨rfl, h', tk, rfl, hS', hk'⟩ := hr2
            repeat (any_goals (first | assumption | wp_step))
            exact h _ _ hS' hk'
          | _ => exact hr2.elim
    | _ => exact hr.elim
end
def tLenSetB (K : PySem.W.Frag) (ta : TE) : TE := fun σ H Q => ta σ H fun x H1 => ∃ (l : Addr) (bs : List Bool), x = .ref l ∧ SqL K H1 l (bs.map V.bl) ∧ Q (.int (cntB bs : Nat)) H1
theorem pe_lenSetB {X : Cx} {a : Expr} {ta : TE} {p p2 q pos : Pos} (hc : X.calm = true) (hg : Gl X "len") (hm : X.mg "len" = none) (hg2 : Gl X "set") (hm2 : X.mg "set" = none) (ha : PE X a ta)
    (na : starEach [a] X.env = (false, eval a X.env) :: starEach [] X.env := by rfl) : PE X (.Call (.Name "len" p) [.Call (.Name "set" p2) [a] [] q] [] pos) (tLenSetB X.K ta) := by
  refine ⟨fun pins s σ H Q I h => ?_⟩
  refine Call_ (ld_blt I hg hm PySem.boot_len ?_)
  refine PyProof.Rows.callWith_builtin1 (PyProof.Rows.args_cons ?_ rfl) rfl rfl
  refine Call_ (ld_blt I hg2 hm2 PyProof.Rows.boot_set ?_)
  refine PyProof.Rows.callWith_type1 (PyProof.Rows.args_cons (thn (ha.run pins s σ H _ I h) fun v s1 ⟨x, H1, I1, r1, q1⟩ => PyProof.Rows.args_nil ?_) na) na rfl
  obtain ⟨l, bs, rfl, hq, q1⟩ := q1
  cases r1
  obtain ⟨its, r, pl, hz⟩ := I1.list hq
  refine set_of (I1.ok.hd hc) pl.isList (by simpa using r) fun h' tk hS hk => ?_
  refine PyProof.Rows.args_nil ?_
  obtain ⟨o, es, ep, t, ho, hex, hd, _, _, _, hf, hn⟩ := hS
  have I2 : Inv X pins σ H1 { s1 with heap := h', toks := tk } := I1.kept fun b o e => hk b o (Heap.lt_size e) e
  have hle := cnt_le bs
  exact call_len_set ho hex hd hf (by rw [hn]; omega) ⟨.int (cntB bs : Nat), H1, I2.tok _, ⟨_, by rw [hn]⟩, q1⟩
end SetY
namespace L3
open PySem PySem.Spec PyProof.Rows L2 Mi
theorem RpAll.bls {K : PySem.W.Frag} {H : Hp} {M : Addr → Prop} : ∀ {vs : List V} {ds : List D} {ys : List Bool}, RpAll K H M vs ds → boolsL ds = some ys → vs = ys.map V.bl
  | _, _, _, .nil, e => by cases e; rfl
  | _, .bool b :: ds, ys, .cons r t, e => by
    unfold boolsL at e
    cases e1 : boolsL ds with
    | none => rw [e1] at e; cases e
    | some k' =>
      rw [e1] at e
      cases e
      cases r
      rw [RpAll.bls t e1]
      rfl
  | _, .none :: ds, _, .cons r t, e => by cases e
  | _, .str _ :: ds, _, .cons r t, e => by cases e
  | _, .int _ :: ds, _, .cons r t, e => by cases e
  | _, .list _ :: ds, _, .cons r t, e => by cases e
  | _, .tuple _ :: ds, _, .cons r t, e => by cases e
  | _, .dict _ :: ds, _, .cons r t, e => by cases e
theorem de_lenSet {X : Cx} {T : List (Addr × Str)} {E : XK} {j : Nat} {a : Expr} {f : EF} {p p2 q pos : Pos} (ck : CK X E j) (ha : DE X T E a f) (hm : X.mg "len" = none) (hm2 : X.mg "set" = none) (hg : Gl X "len" := by rfl) (hg2 : Gl X "set" := by rfl)
    (na : starEach [a] X.env = (false, eval a X.env) :: starEach [] X.env := by rfl) : DE X T E (.Call (.Name "len" p) [.Call (.Name "set" p2) [a] [] q] [] pos) (eLenSet f) :=
  pe_imp (SetY.pe_lenSetB ck.calm hg hm hg2 hm2 ha na) fun σ H Q ⟨ρ, α, μ, S, sl, q⟩ => tD_bind S sl q fun v w H1 α1 μ1 st1 S1 sl1 rv q1 => by
    split at q1
    · rename_i l
      split at q1
      · rename_i bs e
        split at q1
        · cases rv with
          | lst h1 n1 rr1 =>
            have hv := rr1.bls e
            subst hv
            exact ⟨_, bs, rfl, .inl h1, q1 _ H1 α1 (.refl _ _ _) S1 (.int _)⟩
        · exact (show False from q1).elim
      · exact (show False from q1).elim
    · exact (show False from q1).elim
end L3

set_option Elab.async false
set_option linter.all false
set_option maxRecDepth 100000
set_option maxHeartbeats 2000000
/-! The def that tells an error's names, called within an except suite; the def that tries a lambda. -/
namespace L3
open PySem PySem.Spec PyProof.Rows L2 Mi
/-! ### a call while an error is handled -/
theorem run_ofSH {CX : CXT} {P : Program} {w : World} {K : PySem.W.Frag} {mg : Str → Option Value} {base : Heap} {k : Nat} {f : Addr} {name qual : Str} {params : Arguments} {body : List Stmt} {scope : Scope} {dV kV doc pm cdv ct oc : Value} {an od : Option Addr}
    {osl : Array (Option Value)} {N ps : List Str} (lk : K.lookup f = some ⟨oc, od, .func (PySem.W.fnOf name qual params body scope dV kV doc pm an cdv ct), osl⟩) (hcd : PySem.W.codeIn K cdv qual = true) (S : FnScope N ps scope)
    {A : Around} {outer : List PySem.Env} {s : Shared} {H : Hp} {args : Args} {us : List Value} {vs : List V} {Q : VK} {E : XK} {p : Addr × Obj} (hr : L2H.RoomH (k + 1) A) (hpin : L2H.PinOk outer H s p) (e0 : Env0 P w K mg base A outer s H)
    (hb : BindsTo s (PySem.W.fnOf name qual params body scope dV kV doc pm an cdv ct) args (ps.zip us)) (r : Vals vs us) (hl : vs.length = ps.length)
    (hbody : L2H.RoomH k (A.deeper (envOfC qual scope s.heap.objs.size f cdv)) → ∃ t, PSs (L2H.cxH CX P w K mg base N qual scope f cdv A outer s H E p) body t ∧ t { nx := fun _ H' => Q .non H', rt := Q } (L2.start N vs) H) :
    codeAny (model P w) A (.call (.ref f) args) (CR CX outer P w H s Q E) s := by
  have KX : K.In s.heap := e0.mod.kin.keeps fun b o e => (e0.bs b o e).1
  have lim : s.heap.NoLimit := e0.mod.nolimit.keeps fun b o e => (e0.bs b o e).1
  have hkind : ∀ y ∈ ps.zip us, scope.names.lookup y.1 = some .local ∨ (scope.names.lookup y.1 = some .cell ∧ ((cellsFrom (s.heap.objs.size + 1) scope.names []).lookup y.1).isSome = true) := fun ⟨n, v⟩ hy => by
    rcases S.par n (List.of_mem_zip hy).1 with q | q
    · exact .inl q
    · exact .inr ⟨q, PySem.W.cellsFrom_some _ _ _ (.inl q)⟩
  refine codeAny_call_function hr.depth (KX _ _ lk) rfl S.co S.gen rfl (PySem.W.codeRec_of KX hcd) (hb _ _ _ _ ?_)
  refine wpAny_newFunctionEnv_cells S.kind hkind fun env he s1 x => ?_
  subst he
  refine ⟨lim.keeps x.toInCall.keep, codeAny_func ?_⟩
  obtain ⟨t, ht, hq⟩ := hbody (hr.deeper _)
  have I : Inv (L2H.cxH CX P w K mg base N qual scope f cdv A outer s H E p) [] (L2.start N vs) H s1 := L2H.inv_startH S hpin e0 hl r x
  refine wpAny_mono (ht.run [] s1 (L2.start N vs) H _ I hq) (fun fl s' hs => ?_) fun e s' hs => hs
  have fin : ∀ {σ' : L2.St} {H' : Hp} {v : V} {u : Value}, Inv (L2H.cxH CX P w K mg base N qual scope f cdv A outer s H E p) [] σ' H' s' → RelV v u → Q v H' → CE outer P w H s Q u s' :=
    fun {σ' H' v u} J rv q => ⟨v, H', J.os, J.bare, J.base, J.hok, rv, q⟩
  cases fl with
  | ret u =>
    obtain ⟨v, σ', H', J, rv, q⟩ := hs
    exact fin J rv q
  | next =>
    obtain ⟨σ', H', J, q⟩ := hs
    exact fin (v := V.non) (u := Value.none) J rfl q
  | brk =>
    obtain ⟨_, _, _, q⟩ := hs
    exact False.elim q
  | cont =>
    obtain ⟨_, _, _, q⟩ := hs
    exact False.elim q
/-- the def x tells the names of an error of a class that row knows -/
structure HasNm (P : Program) (w : World) (K : PySem.W.Frag) (mg : Str → Option Value) (base : Heap) (T : List (Addr × Str)) (k : Nat) (x : Str) (row : Addr → Str → Prop) : Prop where
  ex : ∃ f fd n0, mg x = some (.ref f) ∧ PySem.W.keepIn K (.ref f) = true ∧ Binds K fd [n0] [] ∧
    ∀ (A : Around) (outer : List PySem.Env) (s : Shared) (H : Hp) (args : Args) (a0 D : Addr) (oe : Obj) (nm : Str) (Q : VK) (E : XK) (α : Al) (μ : Sto), L2H.RoomH k A → L2H.Hot1 A (a0, oe) → L2H.PinOk outer H s (a0, oe) → Zc (.ref D) none oe → row D nm →
      Env0 P w K mg base A outer s H → BindsTo s fd args ([n0].zip [.ref a0]) → Stor ⟨K, mg, T⟩ H α μ → PQ ⟨K, mg, T⟩ E Q H α μ (.ok (.d (.str nm)) μ) → codeAny (model P w) A (.call (.ref f) args) (CR (L2N.CX P w) outer P w H s Q E) s
section
variable {P : Program} {w : World} {K : PySem.W.Frag} {mg : Str → Option Value} {base : Heap} {T : List (Addr × Str)}
theorem nm_ok {x n0 : Str} {st : Stmt} {N : List Str} {k : Nat} {row : Addr → Str → Prop} (d : DefFact K mg x st [n0]) (S : FnScope N [n0] (defScope st))
    (hbody : ∀ (f : Addr) (cdv : Value) (A : Around) (outer : List PySem.Env) (s : Shared) (H : Hp) (E : XK) (a0 D : Addr) (oe : Obj) (nm : Str), L2H.Hot1 A (a0, oe) → Zc (.ref D) none oe → row D nm → A.units + 64 + 3 < cLine →
      ∃ F : SF, DSs (L2H.cxH (L2N.CX P w) P w K mg base N x (defScope st) f cdv A outer s H E (a0, oe)) T E (defBody st) F ∧ ∀ μ, F (startE N.length [.x a0]) μ = .rt (.d (.str nm)) μ) : HasNm P w K mg base T (k + 1) x row := by
  obtain ⟨f, fd, dvs, kws, Fu, hm, hb⟩ := d.ex
  obtain ⟨oc, od, dV, kV, doc, pm, an, cdv, ct, osl, rfl, lk, hcd, _, _⟩ := Fu.ex
  refine ⟨f, _, n0, hm, Fu.kp, hb, fun A outer s H args a0 D oe nm Q E α μ hr hot hpin hz hrow e0 hbn S0 q => ?_⟩
  refine run_ofSH (N := N) (ps := [n0]) (us := [.ref a0]) (vs := [.ref a0]) (p := (a0, oe)) lk hcd S hr hpin e0 hbn (.cons rfl .nil) rfl fun hr2 => ?_
  have hu : A.units + 64 + 3 < cLine := by have := hr.un; omega
  obtain ⟨F, hF, e⟩ := hbody f cdv A outer s H E a0 D oe nm hot hz hrow hu
  refine ⟨_, hF, startE N.length [.x a0], α, μ, S0, ⟨?_, ?_⟩, ?_⟩
  · simp only [startE, L2.start, List.length_append, List.length_map, List.length_replicate, List.length_cons, List.length_nil]
  · exact Sl.start (vs := [.ref a0]) (ws := [.x a0]) (.cons rfl .nil) _
  · rw [e]
    exact q
end
section
variable {X : Cx} {T : List (Addr × Str)} {E : XK} {k i : Nat} {pos : Pos}
theorem pe_nm {x n : Str} {row : Addr → Str → Prop} {q1 q2 : Pos} (h : HasNm X.prog X.w X.K X.mg X.base T k x row) (hr : L2H.RoomH k X.A) {a0 D : Addr} {oe : Obj} {nm : Str} (hot : L2H.Hot1 X.A (a0, oe)) (hp : (a0, oe) ∈ X.pn) (hz : Zc (.ref D) none oe) (hrow : row D nm)
    (hN : X.N[i]? = some n) (hv : Vis X.env.scope n) (hg : Gl X x := by rfl) (hdb : (x == ("__debug__" : Str)) = false := by decide) (hd : (n == ("__debug__" : Str)) = false := by decide) (hcd : (n == ("__classdict__" : Str)) = false := by decide)
    (he : starEach [.Name n q2] X.env = (false, eval (.Name n q2) X.env) :: starEach [] X.env := by rfl) (hpl : (backTo pos (starEach [] X.env)).any (·.1) = false := by rfl) :
    PE X (.Call (.Name x q1) [.Name n q2] [] pos) (fun σ H Q => σ[i]? = some (some (.ref a0)) ∧ ∃ α μ, Stor (CvX X T) H α μ ∧ PQ (CvX X T) E0 Q H α μ (.ok (.d (.str nm)) μ)) := by
  refine ⟨fun pins s σ H Q I hh => ?_⟩
  obtain ⟨hs, α, μ, S, q⟩ := hh
  obtain ⟨f, fd, n0, hm, hk, hb, run⟩ := h.ex
  refine wpAny_Call_Name_kw (ld_glob I hg hm ?_ hdb)
  refine PySem.W.callWith_K (h₀ := X.base) I.ok.mod.kin hk (thn ((pa_cons (pe_var (pos := q2) hN hv hd hcd) pa_nil he).run pos pins s σ H (fun vs H1 => vs = [.ref a0] ∧ H1 = H) I ⟨_, hs, rfl, rfl⟩) fun us s1 ⟨vs, H1, I1, r, e1, e2⟩ => ⟨I1.kIn, ?_⟩) he hpl
  subst e1 e2
  cases r with
  | cons r1 rr =>
    cases rr
    cases r1
    have P1 := I1.pin (a0, oe) (List.mem_append_left _ hp)
    have hpin : L2H.PinOk X.stack H1 s1 (a0, oe) := ⟨P1.1, P1.2.1, fun hm => (List.mem_cons.mp (I1.stkSub a0 hm)).elim P1.2.2.1 P1.2.2.2.1, P1.2.2.2.2⟩
    have b := hb s1 [.ref a0] I1.kIn rfl
    refine wpAny_call (codeAny_mono (run X.A X.stack s1 H1 ⟨[.ref a0], []⟩ a0 D oe nm Q E0 α μ hr hot hpin hz hrow I1.env0 b S q) fun r s' hq => ?_)
    cases r with
    | error e =>
      obtain ⟨_, _, _, _, _, _, _, _, _, _, _, _, z⟩ := hq
      exact z.elim
    | ok fl =>
      cases fl with
      | ret u => exact I1.after hq
      | next => exact False.elim hq
      | brk => exact False.elim hq
      | cont => exact False.elim hq
end
/-! ### lambdas -/
/-- where the lambdas of the block are kept -/
def LamAt (X : Cx) (T : List (Addr × Str)) : Prop := ∃ c P, X.env.code = .ref c ∧ LamX.TabB X.base X.mg c P ∧ (P, X.env.qual ++ "<lambda>") ∈ T ∧ ∀ p ∈ T, p.1 = P → p.2 = X.env.qual ++ "<lambda>"
theorem extN_step {C : Cv} {H H1 : Hp} {α : Al} {μ : Sto} (S : Stor C H α μ) (e : LamX.ExtN H H1) (t : LamX.Tabs C.T H1) : Step H α μ H1 α μ ∧ Stor C H1 α μ := by
  have ex : Ext H (Own α μ) H1 (Own α μ) := ⟨fun b o h n t => ⟨e b o h t, n⟩, fun b xs h => e b _ h (fun _ z => by cases z), fun b o u h => e b _ h (fun _ z => by cases z)⟩
  refine ⟨⟨ex, fun _ _ h => h, rfl, fun b hb => ?_⟩, ⟨S.len, S.nd, fun a h => ?_, fun k c h => ?_, t⟩⟩
  · obtain ⟨o, q, n⟩ := S.there b (List.mem_append_right _ hb)
    rw [q]
    exact e b o q n
  · obtain ⟨o, q, n⟩ := S.there a h
    exact ⟨o, e a o q n, n⟩
  · obtain ⟨a, h1, h2⟩ := S.cell k c h
    refine ⟨a, h1, ?_⟩
    cases c with
    | lst l => obtain ⟨ys, e1, e2⟩ := h2; exact ⟨ys, e _ _ e1 (fun _ z => by cases z), e2.ext ex⟩
    | ins c fs => obtain ⟨A, dx, gs, e1, e2, e3, e4⟩ := h2; exact ⟨A, dx, gs, e1, e _ _ e2 (fun _ z => by cases z), e3, e4.ext ex⟩
abbrev lamCxN (X : Cx) (A : Around) (outer : List PySem.Env) (s : Shared) (H : Hp) (E : XK) (scope : Scope) (f c' : Addr) : Cx :=
  (LamX.lamCx X A outer s H E scope f c').tr [] (fun e s' => wpAny (model X.prog X.w) (A.deeper (LamX.lamEnv X scope s.heap.objs.size f c')) (leaving (LamX.lamEnv X scope s.heap.objs.size f c') e) (fun _ s'' => L2N.CX X.prog X.w outer H s E e s'') (fun e' s'' => L2N.CX X.prog X.w outer H s E e' s'') s')
section
variable {X : Cx} {pins : List (Addr × Obj)} {σ : L2.St} {H HZ : Hp} {s s1 : Shared}
/-- x(), in the def that got the lambda -/
theorem pe_actN {Eg : XK} {Ng : List Str} {qg : Str} {sg : Scope} {g f c' : Addr} {cdg pm ctv : Value} {params : Arguments} {body : Expr} {scope : Scope} {k i : Nat} {a : Str} {pn : List (Addr × Obj)} {xe : Value → Shared → Prop} {W : WX} {tb : XK → TE} {p1 p2 : Pos}
    (I : Inv X pins σ H s) (L : LamX.LamS X.env.scope scope) (hf : s.heap.get? f = some (PySem.W.kla_obj "<lambda>" (X.env.qual ++ "<lambda>") params body scope (cloFrom X.env.cells scope.names []) pm c' ctv)) (hfn : H f = none) (hfr : f ∉ frs X.stack)
    (hbind : bindArgs (PySem.W.kla_fn "<lambda>" (X.env.qual ++ "<lambda>") params body scope (cloFrom X.env.cells scope.names []) pm (.ref c') ctv) ⟨[], []⟩ = pure [])
    (tk : L2N.Takes ((cxOf (L2N.CX X.prog X.w) X.prog X.w X.K X.mg X.base Ng qg sg g cdg X.A X.stack s H Eg).tr pn xe) W) (hr : Room (k + 1) (X.A.deeper (envOfC qg sg s.heap.objs.size g cdg)))
    (hbody : ∀ (A : Around) (outer : List PySem.Env) (s : Shared) (H : Hp) (E : XK), Room k (A.deeper (LamX.lamEnv X scope s.heap.objs.size f c')) → PE (lamCxN X A outer s H E scope f c') body (tb E))
    (hN : Ng[i]? = some a) (hv : Vis sg a) (hd : (a == ("__debug__" : Str)) = false := by decide) (hcd : (a == ("__classdict__" : Str)) = false := by decide) :
    PE ((cxOf (L2N.CX X.prog X.w) X.prog X.w X.K X.mg X.base Ng qg sg g cdg X.A X.stack s H Eg).tr pn xe) (.Call (.Name a p1) [] [] p2)
      (fun σZ HZ Q => σZ[i]? = some (some (.ref f)) ∧ HZ c' = some (LamX.CodeO c' (X.env.qual ++ "<lambda>")) ∧ tb (WE W σZ) σ HZ Q) := by
  refine ⟨fun pinsZ sZ σZ HZ Q IZ h => ?_⟩
  obtain ⟨hs, hc, ht⟩ := h
  refine wpAny_Call_Name_kw (thn ((pe_var (pos := p1) (i := i) hN hv hd hcd).run pinsZ sZ σZ HZ (fun v H1 => v = .ref f ∧ H1 = HZ) IZ ⟨.ref f, hs, rfl, rfl⟩) fun u s1 ⟨v, H1, I1, r1, q1⟩ => ?_)
  obtain ⟨ev, eH⟩ := q1
  subst ev
  rw [eH] at I1
  obtain rfl : u = Value.ref f := r1
  have of1 : s1.heap.get? f = some (PySem.W.kla_obj "<lambda>" (X.env.qual ++ "<lambda>") params body scope (cloFrom X.env.cells scope.names []) pm c' ctv) := I1.base.keep f _ hf hfn hfr (fun z => nomatch (show f ∈ ([] : List Addr) from z))
  refine PySem.W.callWith_F0 ⟨_, _, _, _, of1⟩ ?_
  have un : Un (frs X.stack) [] H HZ s.heap s1.heap := I1.base
  obtain ⟨⟨oc, vs, t, hoc, hdc, hvc⟩, _, _⟩ := I1.hok c' _ hc
  have rc : codeAny (model X.prog X.w) (X.A.deeper (envOfC qg sg s.heap.objs.size g cdg)) (.call (.ref f) ⟨[], []⟩) (CR (L2N.CX X.prog X.w) (envOfC qg sg s.heap.objs.size g cdg :: X.stack) X.prog X.w HZ s1 Q (WE W σZ)) s1 := by
    refine PySem.W.kla_callFunE hr.depth of1 rfl L.co L.gen rfl ⟨c', oc, vs, t, rfl, hoc, hdc, hvc⟩ ?_
    rw [hbind]
    refine wpAny_pure (wpAny_newFunctionEnv (fun y hy => (L.own y hy).2) (fun y hy => absurd hy (by simp)) (fun h₁ hns hsb => ⟨I1.nolimit.fresh _ hsb, ?_⟩) L.kind)
    show codeAny _ _ (.expr body (LamX.lamEnv X scope s1.heap.objs.size f c')) _ _
    have kp : ∀ b o, s1.heap.get? b = some o → h₁.get? b = some o := fun b o e => hsb.extBut b o (Nat.ne_of_lt (Heap.lt_size e)) (Heap.get?_push_of_some _ e)
    have J0 : Inv (LamX.lamCx X (X.A.deeper (envOfC qg sg s.heap.objs.size g cdg)) (envOfC qg sg s.heap.objs.size g cdg :: X.stack) s1 HZ (WE W σZ) scope f c') [] σ HZ { s1 with heap := h₁, toks := s1.toks + ([] : List (Str × Value)).length } :=
      LamX.lam_start2 I L I1.env0 hr.hd un hns kp
    have J := J0.toTry (fun e s' => wpAny (model X.prog X.w) ((X.A.deeper (envOfC qg sg s.heap.objs.size g cdg)).deeper (LamX.lamEnv X scope s1.heap.objs.size f c')) (leaving (LamX.lamEnv X scope s1.heap.objs.size f c') e) (fun _ s'' => L2N.CX X.prog X.w (envOfC qg sg s.heap.objs.size g cdg :: X.stack) HZ s1 (WE W σZ) e s'') (fun e' s'' => L2N.CX X.prog X.w (envOfC qg sg s.heap.objs.size g cdg :: X.stack) HZ s1 (WE W σZ) e' s'') s')
    refine PySem.W.kla_codeExpr (wpAny_mono ((hbody _ _ s1 HZ (WE W σZ) (hr.deeper _)).run [] _ _ HZ Q J ht) (fun v s' hq => ?_) fun e s' hq => hq)
    obtain ⟨w', H', J', rv, q⟩ := hq
    exact ⟨w', H', J'.os, J'.bare, J'.base, J'.hok, rv, q⟩
  have hx := L2N.passAt tk σZ
  refine wpAny_call (codeAny_mono rc fun r s' hq => ?_)
  cases r with
  | error e => exact hx pinsZ HZ s1 e s' I1 hq
  | ok fl =>
    cases fl with
    | ret u => exact I1.after hq
    | next => exact False.elim hq
    | brk => exact False.elim hq
    | cont => exact False.elim hq
end
/-- the def that tries what it gets, and tells the error's names -/
structure HasTry (P : Program) (w : World) (K : PySem.W.Frag) (mg : Str → Option Value) (base : Heap) (T : List (Addr × Str)) (k : Nat) (x : Str) (nm : Exn → Option Str) : Prop where
  ex : ∃ (st : Stmt) (row : Addr → Str → Prop) (CS : Addr), DefFact K mg x st ["call"] ∧ FnScope ["call", "e"] ["call"] (defScope st) ∧
    (∃ (j : Nat) (p1 p2 p3 p4 p5 p6 p7 p8 p9 p10 p11 p12 : Pos), defBody st = [.Try [.Expr (.Call (.Name "call" p1) [] [] p2) p3] [.ExceptHandler (some (.Name "WalkError" p4)) (some "e") [.Return (some (.Call (.Name "_law_names" p5) [.Name "e" p6] [] p7)) p8] p9] [] [] p10, .Return (some (.Constant (.str "") j p11)) p12]) ∧
    (defScope st).names.lookup ("WalkError" : Str) = some .globalImplicit ∧ (defScope st).names.lookup ("_law_names" : Str) = some .globalImplicit ∧ (defScope st).names.lookup ("e" : Str) = some .local ∧ (defScope st).names.lookup ("call" : Str) = some .local ∧
    HasNm P w K mg base T k "_law_names" row ∧ mg "WalkError" = some (.ref CS) ∧
    ∀ x s, nm x = some s → x.arg = none ∧ ∃ D, mg x.cls = some (.ref D) ∧ PySem.W.exmOne K (.ref D) (.ref CS) = some true ∧ row D s
theorem PQ.cut {C : Cv} {E : XK} {Q : VK} {H : Hp} {α : Al} {μ μ1 : Sto} {o : Option W} (h : PQ C E Q H α μ (Mi.ofO o μ1)) : ∃ w, o = some w ∧ PQ C E Q H α μ (.ok w μ1) := by
  cases o with
  | none => exact (show False from h).elim
  | some w => exact ⟨w, rfl, h⟩
theorem noTakes {X : Cx} : L2N.Takes X (fun _ _ _ _ => False) := fun _ _ x => by
  obtain ⟨_, _, _, _, _, _, _, _, _, _, _, _, _, _, _, _, z⟩ := x
  exact z.elim
section
variable {X : Cx} {T : List (Addr × Str)} {E : XK} {j k kn : Nat} {pos : Pos}
theorem de_try {x : Str} {nm : Exn → Option Str} {f : EF} {params : Arguments} {body : Expr} {scope : Scope} {p lpos : Pos} (hT : HasTry X.prog X.w X.K X.mg X.base T kn x nm) (la : LamAt X T) (ck : CK X E j) (hbody : ∀ (A : Around) (outer : List PySem.Env) (s : Shared) (H : Hp) (E : XK) (g c' : Addr), CK (lamCxN X A outer s H E scope g c') E k → DE (lamCxN X A outer s H E scope g c') T E body f)
    (hk : k + 2 ≤ j := by decide) (hkn : kn ≤ k := by decide) (L : LamX.LamS X.env.scope scope := by exact LamX.lamS_by (by kernel_rfl)) (hdef : defaultsOf params X.env = ([], []) := by rfl)
    (hbind : ∀ (q : Str) (cl : List (Str × Addr)) (pm cv ctv : Value), bindArgs (PySem.W.kla_fn "<lambda>" q params body scope cl pm cv ctv) ⟨[], []⟩ = pure [] := by intros; rfl) (hg : Gl X x := by rfl) (hdb : (x == ("__debug__" : Str)) = false := by decide) :
    DE X T E (.Call (.Name x p) [.Lambda params body scope lpos] [] pos) (eTry nm f) := by
  refine ⟨fun pins s σ H Q I ⟨ρ, α, μ, S, sl, q⟩ => ?_⟩
  obtain ⟨st, row, CS, df, Sg, ⟨jj, p1, p2, p3, p4, p5, p6, p7, p8, p9, p10, p11, p12, hB⟩, gW, gN, gE, gC, hn, hW, hnm⟩ := hT.ex
  obtain ⟨g, fd, dvs, kws, Fu, hm, hb⟩ := df.ex
  obtain ⟨oc, od, dV, kV, doc, pm, an, cdv, ct, osl, rfl, lk, hcd, _, _⟩ := Fu.ex
  obtain ⟨c, P, hcode, TB, hmT, hu⟩ := la
  have hr : Room (k + 2) X.A := ck.room.mono hk
  refine wpAny_Call_Name_kw (ld_glob I hg hm ?_ hdb)
  refine PySem.W.callWith_K (h₀ := X.base) I.ok.mod.kin Fu.kp ?_ (by rfl) (by rfl)
  show wpAny _ _ (spliced ((false, eval (.Lambda params body scope lpos) X.env) :: backTo pos (starEach [] X.env))) _ _ s
  refine Calls.spliced_cons (LamX.lam_make2 I TB hcode hmT hu S.tabs hdef (L.has I.ok) fun f' c' pm' ctv H1 s' I1 eN T1 hf hfn hfr hco => ?_)
  refine Calls.spliced_nil ⟨I1.kIn, ?_⟩
  obtain ⟨st1, S1⟩ := extN_step S eN T1
  have sl1 := sl.step st1
  have q1 := PQ.step q st1
  have rc : codeAny (model X.prog X.w) X.A (.call (.ref g) ⟨[.ref f'], []⟩) (CR (L2N.CX X.prog X.w) X.stack X.prog X.w H1 s' Q E0) s' := by
    refine LamX.run_ofS (N := ["call", "e"]) (ps := ["call"]) (us := [.ref f']) (vs := [.ref f']) lk hcd Sg hr I1.env0 (hb s' [.ref f'] I1.kIn rfl) (.cons rfl .nil) rfl fun hr' => ?_
    rw [hB]
    have hB2 : ∀ (A : Around) (outer : List PySem.Env) (s2 : Shared) (H2 : Hp) (E2 : XK), Room k (A.deeper (LamX.lamEnv X scope s2.heap.objs.size f' c')) → PE (lamCxN X A outer s2 H2 E2 scope f' c') body (tD (CvX X T) E2 f) := fun A outer s2 H2 E2 hr2 =>
      hbody A outer s2 H2 E2 f' c' ⟨rfl, ck.nd, hr2, L2N.takes_of rfl rfl rfl rfl⟩
    refine ⟨_, pss_cons (L2N.ps_try_as (X := cxOf (L2N.CX X.prog X.w) X.prog X.w X.K X.mg X.base ["call", "e"] x (defScope st) g cdv X.A X.stack s' H1 E0) (i := 1) (c := .ref CS)
      (tb := fun W => tDrop (fun σZ HZ Q => σZ[0]? = some (some (.ref f')) ∧ HZ c' = some (LamX.CodeO c' (X.env.qual ++ "<lambda>")) ∧ tD (CvX X T) (WE W σZ) f σ HZ Q))
      (ts := fun a cls d D σ H => ∃ D0 nm, cls = .ref D0 ∧ d = none ∧ row D0 nm ∧ σ[1]? = some (some (.ref a)) ∧ ∃ α μ, Stor (CvX X T) H α μ ∧ PQ (CvX X T) E0 D.rt H α μ (.ok (.d (.str nm)) μ))
      (Wout := fun _ _ _ _ => False) rfl rfl Sg.nd rfl gE ⟨gW, by decide, .inl hW⟩ noTakes (fun W pn xe tk _ => pss_one (ps_expr (pe_actN I1 L hf hfn hfr (hbind _ _ _ _ _) tk hr' hB2 rfl (.inl gC)) rfl)) fun a oe cls d pn hz hfl => ?_) (pss_one (ps_ret pe_str)), ?_⟩
    · refine ⟨fun pins2 s2 σ2 H2 D2 I2 h2 => ?_⟩
      obtain ⟨D0, nm0, rfl, rfl, hrow, hs, α2, μ2, S2, q2⟩ := h2
      obtain ⟨vs, hv⟩ := hfl
      have hrm : L2H.RoomH kn ((X.A.deeper (envOfC x (defScope st) s'.heap.objs.size g cdv)).mark (some (.ref a))) := L2H.RoomH.mono ⟨hr'.dp, hr'.un⟩ (by omega)
      exact (pss_one (ps_ret (pe_nm (X := (cxOf (L2N.CX X.prog X.w) X.prog X.w X.K X.mg X.base ["call", "e"] x (defScope st) g cdv X.A X.stack s' H1 E0).suite a ((a, oe) :: pn)) (i := 1) hn hrm (a0 := a) (oe := oe) ⟨rfl, vs, hv, hz.2.2 vs hv⟩ List.mem_cons_self hz.zc hrow rfl (.inl gE) gN))).run pins2 s2 σ2 H2 D2 I2 ⟨hs, α2, μ2, S2, q2⟩
    · refine ⟨rfl, hco, ρ, α, μ, S1, sl1, ?_⟩
      have q1 : PQ (CvX X T) E Q H1 α μ (match f ρ μ with
        | .ok _ μ1 => .ok (.d (.str "")) μ1
        | .er x μ1 => ofO ((nm x).map fun s => W.d (.str s)) μ1
        | .no => .no) := q1
      cases e : f ρ μ with
      | no => rw [e] at q1; exact q1.elim
      | ok w μ1 =>
        rw [e] at q1
        exact fun v H' α' st2 S2 _ => q1 (.str "") H' α' st2 S2 (.str _)
      | er y μ1 =>
        rw [e] at q1
        have q1 : PQ (CvX X T) E Q H1 α μ (ofO ((nm y).map fun s => W.d (.str s)) μ1) := q1
        obtain ⟨z, ez, q2⟩ := PQ.cut q1
        cases en : nm y with
        | none => rw [en] at ez; cases ez
        | some t =>
          rw [en] at ez
          cases ez
          obtain ⟨ha, D0, hm0, hx0, hrow⟩ := hnm y t en
          intro cls d H' α' st2 S2 rx
          obtain ⟨r1, r2⟩ := rx
          have r1 : X.mg y.cls = some cls := r1
          rw [hm0] at r1
          cases r1
          rw [ha] at r2
          obtain rfl := r2
          exact ⟨true, hx0, fun _ a na => ⟨D0, t, rfl, rfl, hrow, rfl, α', μ1, S2, fun v H3 α3 st3 S3 r3 => q2 v H3 α3 (st2.trans st3) S3 r3⟩, fun z => nomatch z⟩
  refine wpAny_call (codeAny_mono rc fun r s2 hq => ?_)
  cases r with
  | error e =>
    obtain ⟨_, _, _, _, _, _, _, _, _, _, _, _, z⟩ := hq
    exact z.elim
  | ok fl =>
    cases fl with
    | ret u => exact I1.after hq
    | next => exact False.elim hq
    | brk => exact False.elim hq
    | cont => exact False.elim hq
end
/-- what isinstance answers of the class at D -/
structure NmRow (K : PySem.W.Frag) (mg : Str → Option Value) (D : Addr) (b : Nat → Bool) : Prop where
  exc : ExcC K D
  own : ∀ (i : Nat) (x : Str) (A : Addr), ownCls[i]? = some x → mg x = some (.ref A) → PySem.W.kitOne K (.ref D) (.ref A) = some (b i)
  val : PySem.W.kitOne K (.ref D) (.type "ValueError") = some (b 16)
def NmR (K : PySem.W.Frag) (mg : Str → Option Value) : Addr → Str → Prop := fun D s => ∃ i, labs[i]? = some s ∧ NmRow K mg D (bOf i)
/-- what is known of an own class that is raised -/
def ClsRow (K : PySem.W.Frag) (mg : Str → Option Value) (x : Str) : Prop := ∃ i D CS, ownCls.idxOf? x = some i ∧ mg x = some (.ref D) ∧ mg "WalkError" = some (.ref CS) ∧ PySem.W.exmOne K (.ref D) (.ref CS) = some true ∧ NmRow K mg D (bOf i)
section
variable {P : Program} {w : World} {K : PySem.W.Frag} {mg : Str → Option Value} {base : Heap} {T : List (Addr × Str)} {k : Nat}
theorem try_ok {st : Stmt} {cl : List Str} (df : DefFact K mg "_law_error" st ["call"]) (Sg : FnScope ["call", "e"] ["call"] (defScope st))
    (hB : ∃ (j : Nat) (p1 p2 p3 p4 p5 p6 p7 p8 p9 p10 p11 p12 : Pos), defBody st = [.Try [.Expr (.Call (.Name "call" p1) [] [] p2) p3] [.ExceptHandler (some (.Name "WalkError" p4)) (some "e") [.Return (some (.Call (.Name "_law_names" p5) [.Name "e" p6] [] p7)) p8] p9] [] [] p10, .Return (some (.Constant (.str "") j p11)) p12])
    (g1 : (defScope st).names.lookup ("WalkError" : Str) = some .globalImplicit) (g2 : (defScope st).names.lookup ("_law_names" : Str) = some .globalImplicit) (g3 : (defScope st).names.lookup ("e" : Str) = some .local) (g4 : (defScope st).names.lookup ("call" : Str) = some .local)
    (hn : HasNm P w K mg base T k "_law_names" (NmR K mg)) (hW : ∃ CS, mg "WalkError" = some (.ref CS)) (hc : ∀ x ∈ cl, ClsRow K mg x) : HasTry P w K mg base T k "_law_error" (nmC cl) := by
  obtain ⟨CS, hW⟩ := hW
  refine ⟨st, NmR K mg, CS, df, Sg, hB, g1, g2, g3, g4, hn, hW, fun x s h => ?_⟩
  unfold nmC at h
  split at h
  · cases h
  · rename_i ha
    split at h
    · rename_i hx
      obtain ⟨i, D, CS', h1, h2, h3, h4, h5⟩ := hc x.cls (by simpa using hx)
      rw [h1] at h
      rw [h3] at hW
      cases hW
      exact ⟨ha, D, h2, h4, i, h, h5⟩
    · cases h
end
/-! ### a def with lambdas -/
def qLam (x : Str) : Str := x ++ ".<locals>." ++ "<lambda>"
/-- .. its function object told -/
structure DefL (K : PySem.W.Frag) (mg : Str → Option Value) (base : Heap) (T : List (Addr × Str)) (x : Str) (st : Stmt) (ps : List Str) (f : Addr) (fd : FuncData) : Prop where
  fu : ∃ dvs kws, FunD K x x (defArgs st) (defBody st) (defScope st) dvs kws f fd
  hm : mg x = some (.ref f)
  hb : Binds K fd ps []
  code : ∃ c P, fd.code = .ref c ∧ LamX.TabB base mg c P ∧ (P, qLam x) ∈ T ∧ ∀ p ∈ T, p.1 = P → p.2 = qLam x
section
variable {P : Program} {w : World} {K : PySem.W.Frag} {mg : Str → Option Value} {base : Heap} {T : List (Addr × Str)}
theorem fn_okF {x : Str} {st : Stmt} {N ps : List Str} {k : Nat} {F : SF} {f : Addr} {fd : FuncData} (d : DefL K mg base T x st ps f fd) (S : FnScope N ps (defScope st))
    (hbody : ∀ (f : Addr) (cdv : Value) (A : Around) (outer : List PySem.Env) (s : Shared) (H : Hp) (E : XK), CK (cxOf (L2N.CX P w) P w K mg base N x (defScope st) f cdv A outer s H E) E k →
      PassesOwn (model P w) (cxOf (L2N.CX P w) P w K mg base N x (defScope st) f cdv A outer s H E).A (cxOf (L2N.CX P w) P w K mg base N x (defScope st) f cdv A outer s H E).env (cxOf (L2N.CX P w) P w K mg base N x (defScope st) f cdv A outer s H E).xe →
      LamAt (cxOf (L2N.CX P w) P w K mg base N x (defScope st) f cdv A outer s H E) T →
      DSs (cxOf (L2N.CX P w) P w K mg base N x (defScope st) f cdv A outer s H E) T E (defBody st) F) : FnOk P w K mg base (L2N.CX P w) (k + 1) f fd ps (spD ⟨K, mg, T⟩ (fnOf ps.length N.length F)) := by
  obtain ⟨⟨dvs, kws, Fu⟩, hm, hb, c, PP, hcd, TB, hT, hu⟩ := d
  obtain ⟨oc, od, dV, kV, doc, pm, an, cdv, ct, osl, rfl, lk, hcdi, _, _⟩ := Fu.ex
  obtain rfl : cdv = .ref c := hcd
  refine fn_of lk hcdi S (fun vs H Q E h => ?_) fun A outer s H vs Q E hr h => ?_
  · obtain ⟨ws, α, μ, S, rs, q⟩ := h
    unfold fnOf at q
    split at q
    · rename_i hl
      rw [rs.length]
      exact hl
    · exact q.elim
  · obtain ⟨ws, α, μ, St, rs, q⟩ := h
    have tk : L2N.Takes (cxOf (L2N.CX P w) P w K mg base N x (defScope st) f (.ref c) A outer s H E) (fun cls d _ H => E cls d H) := L2N.takes_of rfl rfl rfl rfl
    refine ⟨_, hbody f (.ref c) A outer s H E ⟨rfl, S.nd, hr, tk⟩ (passes_of rfl) ⟨c, PP, rfl, TB, hT, hu⟩, ?_⟩
    unfold fnOf at q
    split at q
    · rename_i hl
      refine ⟨startE N.length ws, α, μ, St, ⟨?_, ?_⟩, fin_ok (D := { nx := fun _ H' => Q .non H', rt := Q }) St ⟨rfl, rfl⟩ q⟩
      · have e := rs.length
        simp only [startE, L2.start, List.length_append, List.length_map, List.length_replicate, e]
      · have e := rs.length
        have z := Sl.start rs (N.length - ws.length)
        unfold startE L2.start
        rw [e]
        exact z
    · exact q.elim
/-- .. not told which -/
structure LamF (K : PySem.W.Frag) (mg : Str → Option Value) (base : Heap) (T : List (Addr × Str)) (x : Str) (st : Stmt) (ps : List Str) : Prop where
  ex : ∃ f fd, DefL K mg base T x st ps f fd
theorem DefL.has {x : Str} {st : Stmt} {ps : List Str} {k : Nat} {f : Addr} {fd : FuncData} {g : GF} (d : DefL K mg base T x st ps f fd) (h : FnOk P w K mg base (L2N.CX P w) k f fd ps (spD ⟨K, mg, T⟩ g)) : HasFn P w K mg base T k x g := by
  obtain ⟨⟨dvs, kws, Fu⟩, hm, hb, _⟩ := d
  exact ⟨f, fd, ps, [], [], [], _, hm, Fu.kp, hb, .nil, fun _ _ => .nil, fun ws μ => by rw [List.map_nil, List.append_nil], h⟩
theorem fn_okL {x : Str} {st : Stmt} {N ps : List Str} {k : Nat} {F : SF} (d : LamF K mg base T x st ps) (S : FnScope N ps (defScope st))
    (hbody : ∀ (f : Addr) (cdv : Value) (A : Around) (outer : List PySem.Env) (s : Shared) (H : Hp) (E : XK), CK (cxOf (L2N.CX P w) P w K mg base N x (defScope st) f cdv A outer s H E) E k →
      PassesOwn (model P w) (cxOf (L2N.CX P w) P w K mg base N x (defScope st) f cdv A outer s H E).A (cxOf (L2N.CX P w) P w K mg base N x (defScope st) f cdv A outer s H E).env (cxOf (L2N.CX P w) P w K mg base N x (defScope st) f cdv A outer s H E).xe →
      LamAt (cxOf (L2N.CX P w) P w K mg base N x (defScope st) f cdv A outer s H E) T →
      DSs (cxOf (L2N.CX P w) P w K mg base N x (defScope st) f cdv A outer s H E) T E (defBody st) F) : HasFn P w K mg base T (k + 1) x (fnOf ps.length N.length F) := by
  obtain ⟨f, fd, tl⟩ := d.ex
  exact tl.has (fn_okF tl S hbody)
end
end L3

set_option Elab.async false
set_option linter.all false
set_option maxRecDepth 100000
set_option maxHeartbeats 2000000
/-! Defs as values: a comprehension over several defs, a call of a name that holds one. -/
namespace L3
open PySem PySem.Spec PyProof.Rows L2 Mi
section
variable {X : Cx} {T : List (Addr × Str)} {E : XK} {j : Nat} {pos : Pos} {a : Expr} {es : List Expr} {f g : EF} {r : AF}
theorem RpWs.get {C : Cv} {H : Hp} {α : Al} {μ : Sto} : ∀ {vs : List V} {ws : List W} {i : Nat} {w : W}, RpWs C H α μ vs ws → ws[i]? = some w → ∃ v, vs[i]? = some v ∧ RpW C H α μ v w
  | _, _, _, _, .nil, e => by simp at e
  | _, _, 0, _, .cons r _, e => by simp at e; subst e; exact ⟨_, rfl, r⟩
  | _, _, i + 1, w, .cons _ t, e => by
    obtain ⟨v, h1, h2⟩ := RpWs.get (i := i) (w := w) t (by simpa using e)
    exact ⟨v, by simpa using h1, h2⟩
theorem rpw_inv {C : Cv} {P : Addr} {H1 H2 : Hp} {α1 α2 : Al} {μ1 μ2 : Sto} {n : Nat} {accD : List PyData} {acc : List V} (I : LcInv C P H1 α1 μ1 n accD H2 α2 μ2 acc) {v : V} {w : W} (h : RpW C H1 α1 μ1 v w) : RpW C H2 (α2.hide P) μ2 v w := by
  cases w with
  | d d => exact Rp.ext I.ext h
  | m k => obtain ⟨a, h3, h4⟩ := h; exact ⟨a, I.pre _ _ h3, h4⟩
  | f x => exact h
  | x k => exact h
  | e c y => exact RpW.exte I.ext h
  | es l => exact RpW.extes I.ext h
theorem wipe_set {σ : L2.St} {vs : List Nat} {i : Nat} {o : Option V} (h : i ∈ vs) : L2.wipe ((L2.wipe σ vs).set i o) vs = L2.wipe σ vs := by
  refine List.ext_getElem? fun k => ?_
  rw [wipe_at, wipe_at, List.getElem?_set]
  by_cases hk : k ∈ vs
  · rw [if_pos hk, if_pos hk, L2.wipe_length]
    by_cases e : i = k
    · subst e
      rw [if_pos rfl]
      by_cases hl : i < σ.length
      · rw [if_pos hl, List.getElem?_eq_getElem hl]
        rfl
      · rw [if_neg hl, List.getElem?_eq_none (by omega)]
    · rw [if_neg e, wipe_at, if_pos hk, Option.map_map]
      rfl
  · rw [if_neg hk, if_neg hk, if_neg (fun e => hk (by rw [← e]; exact h)), wipe_at, if_neg hk]
theorem lcW_rd {vs : List Nat} {i : Nat} {σ : L2.St} {H : Hp} {Q : VK} (hr : DA X T E es r) (hl : es.length ≤ 1000) (hw : i ∈ vs) (q : tD (CvX X T) E (eLcW vs i r g) σ H Q) :
    tLc (iTup X.K (tTup (tDs (CvX X T) E r))) (gName i) tYes (tD (CvX X T) E0 g) vs σ H Q := by
  obtain ⟨ρ, α, μ, S, sl, q⟩ := q
  refine hr.read (C := CvX X T) (k := fun ws μ1 => lcW i g (wipeE ρ vs) ws [] μ1) S sl q fun us ws H0 α1 μ1 st0 S0 sl0 rs0 ln q1 => ?_
  refine ⟨by rw [rs0.length, ln]; exact Nat.le_trans hl (by decide), fun p np => ⟨p, rfl, ⟨us, .inl (.inl upd_same)⟩, fun P nP => ?_⟩⟩
  have sm := same_upd (o := .tup us) np
  have st1 := Same.step S0 sm
  have S1 := S0.same sm
  have sl1 := sl0.step st1
  have rs := rs0.step st1
  have hT : SqT X.K (upd H0 p (.tup us)) p us := .inl (.inl upd_same)
  replace q1 := PQ.step q1 st1
  generalize upd H0 p (.tup us) = H1 at *
  have lim : us.length ≤ sizeLine := by rw [rs0.length, ln]; exact Nat.le_trans hl (by decide)
  have hlen := rs.length
  have I0 : LcInv (CvX X T) P H1 α1 μ1 0 [] (upd H1 P (.lst [])) α1 μ1 [] :=
    ⟨stor_hide S1 nP, ext_hide S1 nP, fun _ _ h => h, rfl, (Same.step S1 (same_upd nP)).keep, upd_same, Nat.le_refl _, .nil⟩
  refine ⟨fun n m H2 => m = ws.length - n ∧ n ≤ ws.length ∧ ∃ α2 μ2 acc accD, LcInv (CvX X T) P H1 α1 μ1 n accD H2 α2 μ2 acc ∧ PQ (CvX X T) E Q H1 α1 μ1 (lcW i g (wipeE ρ vs) (ws.drop n) accD μ2),
    ⟨ws.length, rfl, Nat.zero_le _, α1, μ1, [], [], I0, q1⟩, ?_⟩
  rintro n m H2 ⟨rfl, hi, α2, μ2, acc, accD, I2, q2⟩
  have hT2 : SqT X.K H2 p us := I2.ext.sqT hT
  by_cases hlt : n < ws.length
  · obtain ⟨w, hd⟩ : ∃ w, ws[n]? = some w := ⟨ws[n], List.getElem?_eq_getElem hlt⟩
    have ed : ws.drop n = w :: ws.drop (n + 1) := by
      rw [List.drop_eq_getElem_cons hlt]
      congr 1
      rw [List.getElem?_eq_getElem hlt] at hd
      exact Option.some.inj hd
    rw [ed] at q2
    obtain ⟨v, hv, rv⟩ := rs.get hd
    refine .inr ⟨⟨us, v, hT2, hv⟩, fun H3 => n + 1 ≤ ws.length ∧ ∃ α2 μ2 acc accD, LcInv (CvX X T) P H1 α1 μ1 (n + 1) accD H3 α2 μ2 acc ∧ PQ (CvX X T) E Q H1 α1 μ1 (lcW i g (wipeE ρ vs) (ws.drop (n + 1)) accD μ2), fun H3 n => ⟨_, by omega, rfl, n⟩, fun x H3 yy => ?_⟩
    obtain ⟨rfl, yy⟩ := yy
    have ex := yy us hT2
    rw [hv] at ex
    cases ex
    have sl3 : Sl (CvX X T) H3 (α2.hide P) μ2 (L2.wipe σ vs) (wipeE ρ vs) := by
      have z := sl1.wipe vs
      refine ⟨z.len, fun i w h => ?_⟩
      obtain ⟨v, h1, h2⟩ := z.at_ i w h
      exact ⟨v, h1, rpw_inv I2 h2⟩
    have sl4 := sl3.set (rpw_inv I2 rv) i
    refine ⟨wipe_set hw, ?_⟩
    dsimp only [tYes]
    rw [if_pos rfl]
    unfold lcW at q2
    refine ⟨(wipeE ρ vs).set i (some w), α2.hide P, μ2, I2.stor, sl4, ?_⟩
    split at q2
    · rename_i z μ6 eg
      rw [eg]
      intro v6 H6 α6 st6 S6 r6
      obtain ⟨α7, e7, I7⟩ := I2.go st6 S6
      subst e7
      exact ⟨acc, I7.list, Nat.lt_of_le_of_lt I7.len (Nat.lt_of_lt_of_le hlt (by rw [← hlen]; exact lim)), hlt, α7, μ6, _, _, I7.put nP S1 r6, q2⟩
    · exact q2.elim
  · have e0 : ws.drop n = [] := List.drop_eq_nil_of_le (by omega)
    rw [e0] at q2
    refine .inl ⟨⟨us, hT2, by omega⟩, q2 _ H2 α2 I2.st (stor_unhide I2.stor) (.lst (.inl I2.list) (fun z => ?_) (I2.rep.ext ext_unhide))⟩
    have hn := (nodup_hide I2.stor).1
    rcases z with ⟨k, c, h1, h2⟩ | z
    · exact hn (List.mem_append_left _ (List.mem_of_getElem? h1))
    · exact hn (List.mem_append_right _ z)
theorem de_lcW {i : Nat} {x : Str} {p p2 : Pos} {kk : Nat} {elt : Expr} {scope : Scope} {own : List (Str × Nat)} (ck : CK X E j) (hr : DA X T E es r) (ok : BlkOk X.N X.env.scope scope own)
    (hg : ∀ (s : Shared) (H : Hp) (D : Addr) (cl : List (Str × Addr)) (fp : List Addr), PG (X.blk s H scope (compEnvC scope cl D X.env) fp) (.Name x p) (gName i))
    (he : ∀ (s : Shared) (H : Hp) (D : Addr) (cl : List (Str × Addr)) (fp : List Addr), CK (X.blk s H scope (compEnvC scope cl D X.env) fp) E0 j → DE (X.blk s H scope (compEnvC scope cl D X.env) fp) T E0 elt g)
    (hw : i ∈ own.map (·.2) := by decide) (hl : es.length ≤ 1000 := by decide) (hs : ∀ x, foldedSetIterable (.Tuple es kk p2) X.env x = pure x := by intro _; rfl) :
    DE X T E (.ListComp elt [⟨.Name x p, .Tuple es kk p2, [], 0⟩] scope pos) (eLcW (own.map (·.2)) i r g) :=
  pe_imp (pe_lc (g := gName i) (tt := tYes) (te := tD (CvX X T) E0 g) ck.calm ck.nd (pi_tup (pe_tup hr.pa)) ok hg (fun s H D cl fp => pts_nil) (fun s H D cl fp => he s H D cl fp (ck.blk s H scope _ fp)) hs) fun σ H Q q => lcW_rd hr hl hw q
theorem de_callV (i : Nat) {x : Str} {p : Pos} {k : Nat} {gs : List (Str × GF)} (ck : CK X E j) (hf : ∀ y g, gs.lookup y = some g → HasFn X.prog X.w X.K X.mg X.base T k y g) (hr : DA X T E (a :: es) r) (hk : k ≤ j := by decide)
    (hN : X.N[i]? = some x := by rfl) (hv : Vis X.env.scope x := by first | exact Or.inl rfl | exact Or.inr (Or.inl rfl) | exact Or.inr (Or.inr rfl)) (hdb : (x == ("__debug__" : Str)) = false := by decide) (hcd : (x == ("__classdict__" : Str)) = false := by decide)
    (he : starEach (a :: es) X.env = (false, eval a X.env) :: starEach es X.env := by rfl) (hpl : (backTo pos (starEach es X.env)).any (·.1) = false := by rfl) : DE X T E (.Call (.Name x p) (a :: es) [] pos) (eCallV i gs r) := by
  refine ⟨fun pins s σ H Q I ⟨ρ, α, μ, S, sl, q⟩ => ?_⟩
  unfold eCallV at q
  split at q
  · rename_i y e
    obtain ⟨v, hs, A, hA, rfl⟩ := sl.at_ i _ e
    split at q
    · rename_i gf eg
      obtain ⟨f, fd, ps, ds, dvs, dd, g0, h1, h2, h3, h4, h5, h6, h7⟩ := (hf y gf eg).ex
      have hA : X.mg y = some (.ref A) := hA
      rw [h1] at hA
      cases hA
      refine (pe_callL h7 (ck.room.mono hk) hN hv h2 h3 h4 ck.passes hr.pa hdb hcd he hpl).run pins s σ H Q I ⟨hs, ?_⟩
      refine hr.read (C := CvX X T) S sl q fun vs ws H1 α1 μ1 st S1 sl1 rs ln q1 => ?_
      rw [h6] at q1
      exact ⟨ws ++ dd.map W.d, α1, μ1, S1, rs.append (RpAll.ws (h5 _ _)), q1⟩
    · exact (show False from q).elim
  · exact (show False from q).elim
theorem truV_of {C : Cv} {H : Hp} {M : Addr → Prop} {v : V} {d : PyData} {k : Bool} (r : RpT C.K H M v d) (e : truD d = some k) : TruV C.K v H k := by
  unfold truD at e
  split at e
  · cases e; rw [r.none]; exact (rfl : false = false)
  · cases e; rw [r.bl]; exact (rfl : k = k)
  · cases e; rw [r.int]; exact rfl
  · split at e
    · rename_i hl
      cases e; rw [r.str]; exact ⟨lim_line hl, rfl⟩
    · cases e
  · cases e
    obtain ⟨a, xs, rfl, h, rr⟩ := r.list
    refine .inl ⟨xs, .inl h, ?_⟩
    cases rr <;> rfl
  · cases e
    obtain ⟨a, xs, rfl, h, rr⟩ := r.tuple
    refine .inr (.inl ⟨xs, h, ?_⟩)
    cases rr <;> rfl
  · cases e
theorem de_notT (ha : DE X T E a f) : DE X T E (.UnaryOp .Not a pos) (eNotT f) :=
  pe_imp (pe_notT ha) fun σ H Q ⟨ρ, α, μ, S, sl, q⟩ => tD_bind S sl q fun v w H1 α1 μ1 st S1 sl1 r1 q1 => by
    obtain ⟨z, e, q2⟩ := PQ.ofO q1
    cases e1 : Mi.view μ1 w with
    | none => rw [e1] at e; cases e
    | some d =>
      rw [e1] at e
      cases e2 : truD d with
      | none => simp [e2] at e
      | some k =>
        simp [e2] at e
        subst e
        exact ⟨k, truV_of (r1.view S1 e1) e2, q2 _ H1 α1 (.refl _ _ _) S1 (.bl _)⟩
theorem de_fnx {x : Str} {st : Stmt} {ps : List Str} (d : DefFact X.K X.mg x st ps) (hg : Gl X x := by rfl) (hd : (x == ("__debug__" : Str)) = false := by decide) : DE X T E (.Name x pos) (eFn x) := by
  obtain ⟨f, fd, dvs, kws, Fu, hm, hb⟩ := d.ex
  exact de_fn hm hg hd
theorem de_catM {b : Expr} (ha : DE X T E a f) (hb : DE X T E b g) : DE X T E (.BinOp a .Add b pos) (eCatM f g) :=
  pe_imp (pe_op op_catR ha hb) fun σ H Q ⟨ρ, α, μ, S, sl, q⟩ => tD_bind S sl q fun v w H1 α1 μ1 st1 S1 sl1 r1 q1 => tD_bind S1 sl1 q1 fun u w2 H2 α2 μ2 st2 S2 sl2 r2 q2 => by
    have r1 := r1.step st2
    split at q2
    · rename_i x y e1 e2
      split at q2
      · rename_i hl
        obtain ⟨p1, xs, rfl, h1, s1⟩ := (r1.view S2 e1).list
        obtain ⟨p2, ys, rfl, h2, s2⟩ := (r2.view S2 e2).list
        refine ⟨p1, p2, xs, ys, rfl, rfl, h1, h2, by rw [s1.length, s2.length]; exact lim_line hl, fun p np => ?_⟩
        exact q2 _ _ _ (step_push S2 np) (stor_push S2 np (s1.append s2)) ⟨p, by show (α2.own ++ [p])[_]? = _; rw [← S2.len]; simp, rfl⟩
      · exact (show False from q2).elim
    · exact (show False from q2).elim
/-- ahead of a statement: a list that is not changed any more -/
theorem ds_frz (i : Nat) {st : Stmt} {F : SF} (h : DS X T E st F) : DS X T E st (sSeq (sFrz i) F) :=
  ps_imp h fun D σ H ⟨ρ, α, μ, S, sl, q⟩ => by
    unfold sSeq sFrz at q
    split at q
    · rename_i ρ1 μ1 e
      split at e
      · rename_i k ek
        split at e
        · rename_i l el
          cases e
          obtain ⟨v, h1, a, ha, rfl⟩ := sl.at_ i _ ek
          obtain ⟨st2, S2, r2⟩ := own_give S (mlist_at el) ha
          have z := (sl.step st2).set (w := .d (.list l)) r2 i
          have es : σ.set i (some (.ref a)) = σ := by
            refine List.ext_getElem? fun j => ?_
            by_cases hj : i = j
            · subst hj
              rw [List.getElem?_set_self (List.getElem?_eq_some_iff.mp h1).1, h1]
            · rw [List.getElem?_set_ne hj]
          rw [es] at z
          exact ⟨_, _, _, S2, z, QS.step q st2⟩
        · cases e
      · cases e
    · rename_i hne
      split at q
      · rename_i k ek
        split at q
        · rename_i l el
          exact absurd (by rw [ek]; dsimp only; rw [el]) (hne _ _)
        · exact (show False from q).elim
      · exact (show False from q).elim
/-- a, b = x, y where a comprehension or a lambda sees a or b: by a tuple -/
theorem ds_parT (i k : Nat) {a b : Expr} {x y : Str} {px py pt : Pos} {kt k2 pt2} (ck : CK X E j) (ha : DE X T E a f) (hb : DE X T E b g) (hi : X.N[i]? = some x := by rfl) (hj : X.N[k]? = some y := by rfl)
    (hx : Loc X.env.scope x := by first | exact Or.inl rfl | exact Or.inr rfl) (hy : Loc X.env.scope y := by first | exact Or.inl rfl | exact Or.inr rfl)
    (hfx : X.fn x = true ∨ X.env.scope.names.lookup x = some .local := by first | exact Or.inl rfl | exact Or.inr rfl) (hfy : X.fn y = true ∨ X.env.scope.names.lookup y = some .local := by first | exact Or.inl rfl | exact Or.inr rfl)
    (hw : swappedStores [.Tuple [.Name x px, .Name y py] kt pt] (.Tuple [a, b] k2 pt2) X.env = pure none := by rfl)
    (hs : swapsWithSole [.Tuple [.Name x px, .Name y py] kt pt] (.Tuple [a, b] k2 pt2) pos.line X.env = pure false := by rfl)
    (hs1 : starEach [a, b] X.env = (false, eval a X.env) :: starEach [b] X.env := by rfl) (hs2 : starEach [b] X.env = (false, eval b X.env) :: starEach [] X.env := by rfl) :
    DS X T E (.Assign [.Tuple [.Name x px, .Name y py] kt pt] (.Tuple [a, b] k2 pt2) pos) (sPar i k f g) :=
  ps_imp (ps_asg (pe_tup (pa_cons ha (pa_cons hb pa_nil hs2) hs1)) (pg_tup ck.calm (pgs_cons (pg_name ck.nd hi hx hfx) (pgs_cons (pg_name ck.nd hj hy hfy) pgs_nil))) hs hw) fun D σ H ⟨ρ, α, μ, S, sl, q⟩ =>
    tD_bindS S sl q fun v w H1 α1 μ1 st S1 sl1 r q1 => tD_bindS S1 sl1 q1 fun v2 w2 H2 α2 μ2 st2 S2 sl2 r2 q2 => by
      refine ⟨(by decide : 2 ≤ sizeLine), fun p np => ⟨p, [v, v2], rfl, .inl (.inl upd_same), rfl, v, [v2], rfl, v2, [], rfl, rfl, ?_⟩⟩
      have sm := same_upd (o := .tup [v, v2]) np
      have st3 := Same.step S2 sm
      exact QS.nx (S2.same sm) (((sl2.set (r.step st2) i).set r2 k).step st3) (QS.step q2 st3)
/-- defs that a name may hold -/
theorem held_nil {P : Program} {w : World} {K : PySem.W.Frag} {mg : Str → Option Value} {base : Heap} {k : Nat} : ∀ (y : Str) (g : GF), ([] : List (Str × GF)).lookup y = some g → HasFn P w K mg base T k y g := fun y g e => by cases e
theorem held_cons {P : Program} {w : World} {K : PySem.W.Frag} {mg : Str → Option Value} {base : Heap} {k : Nat} {x : Str} {g0 : GF} {gs : List (Str × GF)} (h : HasFn P w K mg base T k x g0) (r : ∀ (y : Str) (g : GF), gs.lookup y = some g → HasFn P w K mg base T k y g) :
    ∀ (y : Str) (g : GF), ((x, g0) :: gs).lookup y = some g → HasFn P w K mg base T k y g := fun y g e => by
  rw [List.lookup_cons] at e
  split at e
  · rename_i hb
    cases e
    have : y = x := by simpa using hb
    subst this
    exact h
  · exact r y g e
end
end L3

set_option Elab.async false
set_option linter.all false
set_option maxRecDepth 100000
set_option maxHeartbeats 2000000
/-! t[::-1] of a tuple. -/
namespace L3
open PySem PySem.Spec PyProof.Rows L2 Mi HT
section
variable {prog : Program} {w : World} {A : Around} {E : Value → Shared → Prop} {s : Shared}
theorem sliceApplied_rev {sl : Addr} {vs : Value} {n : Nat} {Q : Int × Int × Nat → Shared → Prop} (hs : s.heap.IsSliceOf sl .none .none vs) (ps : IsPart vs (some (-1)))
    (h : Q ((n : Int) - 1, -1, n) s) : wpAny (model prog w) A (Builtin.Slice.sliceApplied (.ref sl) (pure (n : Int))) Q E s := by
  obtain ⟨os, hos, hcs, hds⟩ := id hs
  unfold Builtin.Slice.sliceApplied Builtin.Slice.sliceFields
  refine wpAny_bind (wpAny_bind (wpAny_field hos hds (x := .none) rfl (wpAny_bind (wpAny_field hos hds (x := .none) rfl (wpAny_bind (wpAny_field hos hds (x := vs) rfl (wpAny_pure ?_)))))))
  refine wpAny_bind (slicePart_ ps ?_)
  show wpAny _ _ (if ((-1 : Int) == 0) = true then _ else _) _ _ s
  rw [if_neg (by decide)]
  refine wpAny_bind (slicePart_none (wpAny_bind (slicePart_none (wpAny_bind (wpAny_pure ?_)))))
  have e1 : Builtin.Slice.sliceAdjust none none (-1) (n : Int) = ((n : Int) - 1, -1) := by
    simp [Builtin.Slice.sliceAdjust]
  show wpAny _ _ (match Builtin.Slice.sliceAdjust none none (-1) (n : Int) with | (lo, hi) => pure (lo, (-1 : Int), Builtin.Slice.slicePlaces lo hi (-1))) _ _ s
  rw [e1]
  have e2 : Builtin.Slice.slicePlaces ((n : Int) - 1) (-1) (-1) = n := by
    unfold Builtin.Slice.slicePlaces
    have h1 : ¬ ((-1 : Int) > 0) := by decide
    rw [if_neg h1]
    split
    · rw [show (- -1 : Int) = 1 by decide, Int.ediv_one]
      omega
    · omega
  show wpAny _ _ (pure ((n : Int) - 1, (-1 : Int), Builtin.Slice.slicePlaces ((n : Int) - 1) (-1) (-1))) _ _ s
  rw [e2]
  exact wpAny_pure h
theorem fm_congr {α β : Type} {f g : α → Option β} : ∀ {l : List α}, (∀ x ∈ l, f x = g x) → l.filterMap f = l.filterMap g
  | [], _ => rfl
  | a :: l, h => by rw [List.filterMap_cons, List.filterMap_cons, h a List.mem_cons_self, fm_congr fun x hx => h x (List.mem_cons_of_mem _ hx)]
theorem pick_rev (xs : Array Value) : ((List.range xs.size).filterMap fun (m : Nat) => xs[((xs.size : Int) - 1 + (m : Int) * (-1)).toNat]?).toArray = xs.toList.reverse.toArray := by
  congr 1
  have e : (List.range xs.size).filterMap (fun (m : Nat) => xs[((xs.size : Int) - 1 + (m : Int) * (-1)).toNat]?) = ((List.range xs.size).map fun k => xs.size - 1 - k).filterMap (xs[·]?) := by
    rw [List.filterMap_map]
    refine fm_congr fun m hm => ?_
    have := List.mem_range.mp hm
    show xs[((xs.size : Int) - 1 + (m : Int) * (-1)).toNat]? = xs[xs.size - 1 - m]?
    congr 1
    omega
  rw [e, PySem.W.krv_range, List.filterMap_reverse, PySem.W.krv_all]
theorem getItem_tuple_rev {t sl : Addr} {items : Array Value} {vs : Value} {Q : Value → Shared → Prop} (ht : IsTup s.heap t items) (hs : s.heap.IsSliceOf sl .none .none vs) (ps : IsPart vs (some (-1)))
    (h : Q (.ref s.heap.objs.size) { s with heap := s.heap.push { cls := .type "tuple", data := .seq items.toList.reverse.toArray } })
    (hsz : items.size ≤ sizeLine) : wpAny (model prog w) A (getItem (.ref t) (.ref sl)) Q E s := by
  have htake : sizeOk (.seq items.toList.reverse.toArray) := by
    show items.toList.reverse.toArray.size ≤ sizeLine
    rw [List.size_toArray, List.length_reverse, Array.length_toList]
    exact hsz
  obtain ⟨os, hos, hcs, hds⟩ := id hs
  have hTs : s.TypeIs (.ref sl) "slice" := ⟨os, hos, hcs⟩
  unfold getItem
  try with_reducible refine wpAny_holding ?_
  first | refine wpAny_bind (wpAny_pure ?_) | skip
  refine wpAny_bind (wpAny_sequenceKey ht.typeIs (by decide) ?_)
  refine wpAny_bind (wpAny_callSpecial?_slot (name := Str.ofString "__getitem__") ht.typeIs PyProof.Rows.slot_tuple_getitem
    (wpAny_call_entry PyProof.Rows.slot_tuple_getitem ht.typeIs entry_tuple_getitem ?_ (args_tuple_getitem _ _)))
  show wpAny _ _ (Builtin.Tuple.tupleItemsOf (.ref t) >>= _) _ _ s
  refine wpAny_bind (tupleItemsOf_ ht ?_)
  refine wpAny_bind (wpAny_typeOf hTs ?_)
  rw [if_pos (by decide)]
  refine wpAny_bind (sliceApplied_rev hs ps ?_)
  have hno : ¬ (((items.size : Int) - 1 == 0 && (-1 : Int) == 1 && items.size == items.size) = true) := by
    rw [show ((-1 : Int) == 1) = false from rfl]
    simp
  show wpAny _ _ (if ((items.size : Int) - 1 == 0 && (-1 : Int) == 1 && items.size == items.size) = true then _ else _) _ _ s
  rw [if_neg hno, pick_rev]
  first
    | exact wpAny_bind (m := Builtin.Tuple.tupleExact _) (wpAny_newObj_type (wpAny_pure ⟨_, rfl, wpAny_pure h⟩) htake)
    | exact wpAny_bind (m := Builtin.Tuple.tupleExact _) (wpAny_newObj_type (wpAny_bind (wpAny_pure (wpAny_pure ⟨_, rfl, wpAny_pure h⟩))) htake)
    | exact wpAny_bind (wpAny_bind (m := Builtin.Tuple.tupleExact _) (wpAny_newObj_type (wpAny_pure (wpAny_pure ⟨_, rfl, wpAny_pure h⟩)) htake))
    | exact wpAny_bind (wpAny_bind (m := Builtin.Tuple.tupleExact _) (wpAny_newObj_type (wpAny_pure ⟨_, rfl, wpAny_pure h⟩) htake))
end
/-- xs[::-1] of a list or a tuple -/
def tRevA (K : PySem.W.Frag) (te : TE) : TE := fun σ H Q => te σ H fun x H1 => (∃ a xs, x = .ref a ∧ SqL K H1 a xs ∧ ∀ p, H1 p = none → Q (.ref p) (upd H1 p (.lst xs.reverse))) ∨
  (∃ a xs, x = .ref a ∧ SqT K H1 a xs ∧ ∀ p, H1 p = none → Q (.ref p) (upd H1 p (.tup xs.reverse)))
section
variable {X : Cx} {T : List (Addr × Str)} {E : XK} {j : Nat} {a : Expr} {f : EF}
theorem pe_revA {e : Expr} {te : TE} {k : Nat} {p1 p2 p3 pos : Pos} (he : PE X e te) : PE X (.Subscript e (.Slice none none (some (.UnaryOp .USub (.Constant (.int 1) k p1) p2)) p3) pos) (tRevA X.K te) := by
  refine ⟨fun pins s σ H Q I h => ?_⟩
  refine Subscript_ (thn (he.run pins s σ H _ I h) fun v s1 ⟨x, H1, I1, r1, q1⟩ => ?_)
  have hst : PO X (some (.UnaryOp .USub (.Constant (.int 1) k p1) p2)) (tPart (tUn (rU fun i => .int (-i)) (tC (.int 1)))) := po_some (pe_un un_neg pe_int)
  refine wpAny_Slice (thn (po_none.run pins s1 σ H1 (fun o H2 => o = none ∧ H2 = H1) I1 ⟨rfl, rfl⟩) fun vl s2 ⟨l, H2, I2, pl, el, e2⟩ => ?_)
  subst el e2
  refine thn (po_none.run pins s2 σ H2 (fun o H3 => o = none ∧ H3 = H2) I2 ⟨rfl, rfl⟩) fun vu s3 ⟨u, H3, I3, pu, eu, e3⟩ => ?_
  subst eu e3
  refine thn (hst.run pins s3 σ H3 (fun o H4 => o = some (-1) ∧ H4 = H3) I3 ⟨1, rfl, -1, rfl, rfl, rfl⟩) fun vs s4 ⟨o, H4, I4, ps, eo, e4⟩ => ?_
  subst eo e4
  have I5 : Inv X pins σ H4 { s4 with heap := s4.heap.push { cls := .type "slice", data := .fields #[vl, vu, vs] } } := I4.kept (t' := s4.toks) fun b ob q => Heap.get?_push_of_some _ q
  rcases q1 with ⟨a, xs, ex, hx, q⟩ | ⟨a, xs, ex, hx, q⟩
  · subst ex
    cases r1
    obtain ⟨its, r, ht, hz⟩ := I5.list hx
    have hlen := r.length
    show wpAny (model X.prog X.w) X.A (subscriptTail e (.Slice none none (some (.UnaryOp .USub (.Constant (.int 1) k p1) p2)) p3) (.ref a) (.ref s4.heap.objs.size)) (EP X pins σ Q) X.xe { s4 with heap := s4.heap.push { cls := .type "slice", data := .fields #[vl, vu, vs] } }
    refine tail_any (ops := [.ref a, .ref s4.heap.objs.size]) ht.isList.typeIs (PySem.slot_list_getitem.lookup) ?_ (by with_unfolding_all rfl)
    refine wpAny_getItem_list_slice ht.isList (Heap.IsSliceOf.new _ vl vu vs) pl pu ps (by decide) ?_ (by rw [List.size_toArray]; omega)
    rw [PySem.W.krv_pick]
    refine ⟨.ref _, _, I5.laid (t' := s4.toks) (o := .lst xs.reverse) (fun b ob q => Heap.get?_push_of_some _ q) (Nat.le_refl _) ?_, rfl, q _ (I5.hok.fresh (Nat.le_refl _))⟩
    exact ⟨by rw [List.length_reverse]; exact hz, _, 0, r.reverse, Heap.get?_push_size _ rfl⟩
  · subst ex
    cases r1
    cases pl
    cases pu
    obtain ⟨its, r, ht, hz⟩ := I5.tuple hx
    have hlen : its.toArray.size = xs.length := by rw [List.size_toArray]; exact r.length.symm
    show wpAny (model X.prog X.w) X.A (subscriptTail e (.Slice none none (some (.UnaryOp .USub (.Constant (.int 1) k p1) p2)) p3) (.ref a) (.ref s4.heap.objs.size)) (EP X pins σ Q) X.xe { s4 with heap := s4.heap.push { cls := .type "slice", data := .fields #[.none, .none, vs] } }
    refine tail_any (ops := [.ref a, .ref s4.heap.objs.size]) ht.typeIs PyProof.Rows.slot_tuple_getitem.lookup ?_ (by with_unfolding_all rfl)
    refine getItem_tuple_rev ht (Heap.IsSliceOf.new _ .none .none vs) ps ?_ (by rw [hlen]; exact hz)
    refine ⟨.ref _, _, I5.laid (t' := s4.toks) (o := .tup xs.reverse) (fun b ob q => Heap.get?_push_of_some _ q) (Nat.le_refl _) ?_, rfl, q _ (I5.hok.fresh (Nat.le_refl _))⟩
    exact ⟨by rw [List.length_reverse]; exact hz, _, r.reverse, IsTup.new _ _⟩
theorem de_revA {j1 : Nat} {p1 p2 p3 pos : Pos} (ha : DE X T E a f) : DE X T E (.Subscript a (.Slice none none (some (.UnaryOp .USub (.Constant (.int 1) j1 p1) p2)) p3) pos) (eUn dRev f) :=
  pe_imp (pe_revA ha) fun σ H Q ⟨ρ, α, μ, S, sl, q⟩ => tD_bind S sl q fun v w H1 α1 μ1 st1 S1 sl1 r1 q1 => by
    obtain ⟨z, e, q2⟩ := PQ.ofO q1
    cases e1 : view μ1 w with
    | none => rw [e1] at e; cases e
    | some d =>
      simp only [e1, Option.bind_some] at e
      cases d with
      | list l =>
        cases e
        obtain ⟨p4, xs, rfl, h4, r4⟩ := (r1.view S1 e1).list
        refine .inl ⟨p4, xs, rfl, .inl h4, fun p np => ?_⟩
        obtain ⟨sm, rp⟩ := rp_newL S1 np r4.reverse
        exact q2 _ _ _ (Same.step S1 sm) (S1.same sm) rp
      | tuple l =>
        cases e
        obtain ⟨p4, xs, rfl, h4, r4⟩ := (r1.view S1 e1).tuple
        refine .inr ⟨p4, xs, rfl, h4, fun p np => ?_⟩
        obtain ⟨sm, rp⟩ := rp_newT np r4.reverse
        exact q2 _ _ _ (Same.step S1 sm) (S1.same sm) rp
      | none => cases e
      | bool b => cases e
      | int b => cases e
      | str b => cases e
      | dict b => cases e
end
end L3

set_option Elab.async false
set_option linter.all false
set_option maxRecDepth 100000
set_option maxHeartbeats 2000000
/-! l.index(x), l.count(x), list(range(..)). -/
namespace L3
open PySem PySem.Spec PyProof.Rows L2 Mi
theorem R.bind_assoc {α β γ : Type} (r : R α) (f : α → Sto → R β) (g : β → Sto → R γ) : (r.bind f).bind g = r.bind fun a μ => (f a μ).bind g := by cases r <;> rfl
section
variable {X : Cx}
def rCntF (K : PySem.W.Frag) : V → List V → Hp → VK → Prop := fun x xs H Q => ∃ (a : Addr) (ys : List V) (y : V), x = V.ref a ∧ xs = [y] ∧ SqL K H a ys ∧ flatV y = true ∧ ys.all flatV = true ∧ Q (.int (ys.countP fun z => eqV z y : Nat)) H
theorem countP_eqU {y : V} : ∀ {ys : List V} {its : List Value}, Vals ys its → ys.all flatV = true → its.countP (eqU y) = ys.countP fun z => eqV z y
  | _, _, .nil, _ => rfl
  | _, _, .cons r t, h => by
    rw [List.all_cons, Bool.and_eq_true] at h
    rw [List.countP_cons, List.countP_cons, countP_eqU t h.2, eqU_of r h.1]
theorem mt_countF : MtR X "list.count" (rCntF X.K) := by
  intro pins s σ H x xs v us Q I rx rxs h
  obtain ⟨a, ys, y, rfl, rfl, hs, fy, fys, q⟩ := h
  cases rx
  cases rxs with
  | cons ry rt =>
    rename_i uy ut
    cases rt
    obtain ⟨its, rv, ⟨⟨cls, dd, data, sl⟩, n, ho, hc, hdn, hd⟩, hlen⟩ := I.list hs
    simp only at hc hd
    subst hc hd
    refine call_meets PySem.F.slot_list_count ⟨_, ho, rfl⟩ PySem.F.entry_list_count (PySem.F.args_list_count_2 _ _)
      (SeqAt.list_countAt a its.toArray n dd sl uy (eqU y)) ⟨ho, fun u' hu' => mem_eqAt ry fy rv fys u' (by simpa using hu'), ?_⟩
    refine ⟨.int (ys.countP fun z => eqV z y : Nat), H, I.tok _, ⟨s.toks, ?_⟩, q⟩
    rw [← countP_eqU rv fys]
end
section
variable {C : Cv} {E : XK}
def MeL (C : Cv) (op : List D → D → Option D) (r : V → List V → Hp → VK → Prop) : Prop := ∀ H α μ x y l d z Q, Stor C H α μ → RpT C.K H (Own α μ) x (.list l) → RpT C.K H (Own α μ) y d → op l d = some z → (∀ v H', Same H H' → Rp C.K H' (Own α μ) v z → Q v H') → r x [y] H Q
theorem ml_index : MeL C lIndex (rIndex C.K) := by
  intro H α μ x y l d z Q S rx ry e q
  unfold lIndex at e
  split at e
  · rename_i h
    cases e1 : l.findIdx? fun z => PyData.eqv z d with
    | none => rw [e1] at e; cases e
    | some j =>
      rw [e1] at e
      cases e
      obtain ⟨hj, h1, h2⟩ := List.findIdx?_eq_some_iff_getElem.mp e1
      obtain ⟨p1, xs, rfl, g1, r1⟩ := rx.list
      have r0 := ry.flat h.1
      have fl : ∀ d ∈ l, flatD d = true := fun d hd => List.all_eq_true.mp h.2 d hd
      obtain ⟨v, hv, rv⟩ := r1.get (List.getElem?_eq_getElem hj)
      refine ⟨p1, xs, y, j, v, rfl, rfl, .inl g1, r0.flat h.1, r1.flat h.2, hv, ?_, fun m z' hm hz' => ?_, q _ H (.refl H) (.int _)⟩
      · rw [rv.eqv r0 (fl _ (List.getElem_mem _)) h.1]
        exact h1
      · have hml : m < l.length := by omega
        obtain ⟨v2, hv2, rv2⟩ := r1.get (List.getElem?_eq_getElem hml)
        rw [hz'] at hv2
        cases hv2
        rw [rv2.eqv r0 (fl _ (List.getElem_mem _)) h.1]
        simpa using h2 m hm
  · cases e
theorem RpAll.countP {K : PySem.W.Frag} {H : Hp} {M : Addr → Prop} {u : V} {e : D} (q : Rp K H M u e) (he : flatD e = true) : ∀ {vs : List V} {ds : List D}, RpAll K H M vs ds → ds.all flatD = true → vs.countP (fun z => eqV z u) = ds.countP fun y => PyData.eqv y e
  | _, _, .nil, _ => rfl
  | _, _, .cons r t, h => by
    rw [List.all_cons, Bool.and_eq_true] at h
    rw [List.countP_cons, List.countP_cons, RpAll.countP q he t h.2, r.eqv q h.1 he]
theorem ml_count : MeL C lCount (rCntF C.K) := by
  intro H α μ x y l d z Q S rx ry e q
  unfold lCount at e
  split at e
  · rename_i h
    cases e
    obtain ⟨p1, xs, rfl, g1, r1⟩ := rx.list
    have r0 := ry.flat h.1
    exact ⟨p1, xs, y, rfl, rfl, .inl g1, r0.flat h.1, r1.flat h.2, by rw [r1.countP r0 h.1 h.2]; exact q _ H (.refl H) (.int _)⟩
  · cases e
theorem rp_rangeV {K : PySem.W.Frag} {H : Hp} {M : Addr → Prop} (a : Int) : ∀ l : List Nat, RpAll K H M (l.map fun i => V.int (a + (i : Nat))) (l.map fun (k : Nat) => PyData.int (a + k))
  | [] => .nil
  | n :: r => .cons (.int _) (rp_rangeV a r)
end
section
variable {X : Cx} {T : List (Addr × Str)} {E : XK} {j : Nat} {pos apos : Pos} {tg a b c : Expr} {f g h : EF}
theorem de_lm {id : String} {name : Str} {op : List D → D → Option D} {r : V → List V → Hp → VK → Prop} {p' : Pos} (slot : Slot "list" name id) (ty : typeOf (.builtin id) = pure (.type "method_descriptor")) (rule : MtR X id r) (hm : MeL (CvX X T) op r) (ha : DE X T E a f) (hb : DE X T E b g)
    (hbase : attributeBase a name X.env (eval a X.env) = eval a X.env := by rfl)
    (hfew : ((backTo pos (starEach [b] X.env)).all (fun x => !x.1) && (backToKw pos (keywordEach [] X.env)).all (fun x => x.1.isSome) && decide ([b].length + ([] : List Keyword).length + (if ([] : List Keyword).isEmpty then 0 else 1) < 30)) = true := by rfl)
    (hline : (p'.endLine == pos.line) = true := by rfl) (hs : starEach [b] X.env = (false, eval b X.env) :: starEach [] X.env := by rfl) (hpl : (backTo pos (starEach [] X.env)).any (·.1) = false := by rfl) :
    DE X T E (.Call (.Attribute a name p') [b] [] pos) (eLm op f g) :=
  pe_imp (pe_bm PySem.F.plainAttrs_list slot ty rule ha (pa_cons hb pa_nil hs) hbase hfew hline hs hpl) fun σ H Q ⟨ρ, α, μ, S, sl, q⟩ =>
    tD_bind S sl q fun v w H1 α1 μ1 st S1 sl1 r1 q1 => by
      split at q1
      · rename_i l
        obtain ⟨p1, xs, rfl, h1, r3⟩ := RpT.list (.inl r1)
        refine ⟨.inl ⟨rfl, xs, .inl h1⟩, ?_⟩
        refine tD_bind S1 sl1 q1 fun v2 w2 H2 α2 μ2 st2 S2 sl2 r2 q2 => ?_
        obtain ⟨z, e, q3⟩ := PQ.ofO q2
        cases e1 : view μ2 w2 with
        | none => rw [e1] at e; cases e
        | some d =>
          simp only [e1, Option.bind_some] at e
          cases e3 : op l d with
          | none => rw [e3] at e; cases e
          | some d2 =>
            rw [e3] at e
            cases e
            have r1' : RpW (CvX X T) H2 α2 μ2 (.ref p1) (.d (.list l)) := r1.step st2
            exact hm H2 α2 μ2 _ _ l d d2 Q S2 (.inl r1') (r2.view S2 e1) e3 fun v H' sm rv => q3 v H' α2 (Same.step S2 sm) (S2.same sm) rv
      · exact (show False from q1).elim
theorem de_index {p' : Pos} (ha : DE X T E a f) (hb : DE X T E b g)
    (hbase : attributeBase a "index" X.env (eval a X.env) = eval a X.env := by rfl)
    (hfew : ((backTo pos (starEach [b] X.env)).all (fun x => !x.1) && (backToKw pos (keywordEach [] X.env)).all (fun x => x.1.isSome) && decide ([b].length + ([] : List Keyword).length + (if ([] : List Keyword).isEmpty then 0 else 1) < 30)) = true := by rfl)
    (hline : (p'.endLine == pos.line) = true := by rfl) (hs : starEach [b] X.env = (false, eval b X.env) :: starEach [] X.env := by rfl) (hpl : (backTo pos (starEach [] X.env)).any (·.1) = false := by rfl) :
    DE X T E (.Call (.Attribute a "index" p') [b] [] pos) (eLm lIndex f g) := de_lm PySem.F.slot_list_index PySem.F.type_list_index mt_index ml_index ha hb hbase hfew hline hs hpl
theorem de_count {p' : Pos} (ha : DE X T E a f) (hb : DE X T E b g)
    (hbase : attributeBase a "count" X.env (eval a X.env) = eval a X.env := by rfl)
    (hfew : ((backTo pos (starEach [b] X.env)).all (fun x => !x.1) && (backToKw pos (keywordEach [] X.env)).all (fun x => x.1.isSome) && decide ([b].length + ([] : List Keyword).length + (if ([] : List Keyword).isEmpty then 0 else 1) < 30)) = true := by rfl)
    (hline : (p'.endLine == pos.line) = true := by rfl) (hs : starEach [b] X.env = (false, eval b X.env) :: starEach [] X.env := by rfl) (hpl : (backTo pos (starEach [] X.env)).any (·.1) = false := by rfl) :
    DE X T E (.Call (.Attribute a "count" p') [b] [] pos) (eLm lCount f g) := de_lm PySem.F.slot_list_count PySem.F.type_list_count mt_countF ml_count ha hb hbase hfew hline hs hpl
theorem lrg_go {H : Hp} {α : Al} {μ : Sto} {Q : VK} {a b : Int} (S : Stor (CvX X T) H α μ) (h1 : -(LIM : Int) ≤ a) (h2 : a ≤ LIM) (h3 : -(LIM : Int) ≤ b) (h4 : b ≤ LIM) (q : PQ (CvX X T) E Q H α μ (.ok (.d (.list (rangeD a b))) μ)) : RgOk a b ∧ ∀ p, H p = none → Q (.ref p) (upd H p (.lst (rgV a b))) := by
  have hL : (LIM : Int) = 1000000 := rfl
  refine ⟨⟨by omega, by omega, by omega, by omega, by omega⟩, fun p np => ?_⟩
  obtain ⟨sm, rp⟩ := rp_newL S np (rp_rangeV (K := (CvX X T).K) (H := H) (M := Own α μ) a (List.range (b - a).toNat))
  exact q _ _ α (Same.step S sm) (S.same sm) rp
theorem de_lrg1 {p p2 q : Pos} (hc : X.calm = true) (ha : DE X T E a f) (hm : X.mg "list" = none) (hm2 : X.mg "range" = none) (hg : Gl X "list" := by rfl) (hg2 : Gl X "range" := by rfl)
    (na : starEach [a] X.env = (false, eval a X.env) :: starEach [] X.env := by rfl)
    (nb : starEach [.Call (.Name "range" p2) [a] [] q] X.env = (false, eval (.Call (.Name "range" p2) [a] [] q) X.env) :: starEach [] X.env := by rfl) : DE X T E (.Call (.Name "list" p) [.Call (.Name "range" p2) [a] [] q] [] pos) (eLRg (iRange1 f)) :=
  pe_imp (pe_listRg hc hg hm (prg_1 hg2 hm2 ha na) nb) fun σ H Q ⟨ρ, α, μ, S, sl, q⟩ => by
    have q : PQ (CvX X T) E Q H α μ ((iRange1 f ρ μ).bind fun l μ1 => .ok (.d (.list l)) μ1) := q
    unfold iRange1 at q
    rw [R.bind_assoc] at q
    refine tD_bind S sl q fun v w H1 α1 μ1 st S1 sl1 r q1 => ?_
    cases w with
    | d d =>
      cases d with
      | int b =>
        dsimp only at q1
        have hv : v = .int b := RpT.int (.inl r)
        by_cases hb : -(LIM : Int) ≤ b ∧ b ≤ LIM
        · rw [if_pos hb] at q1
          exact ⟨b, hv, lrg_go S1 (by decide) (by decide) hb.1 hb.2 q1⟩
        · rw [if_neg hb] at q1
          exact (show False from q1).elim
      | _ => exact (show False from q1).elim
    | _ => exact (show False from q1).elim
theorem de_lrg2 {p p2 q : Pos} (hc : X.calm = true) (ha : DE X T E a f) (hb : DE X T E b g) (hm : X.mg "list" = none) (hm2 : X.mg "range" = none) (hg : Gl X "list" := by rfl) (hg2 : Gl X "range" := by rfl)
    (na : starEach [a, b] X.env = (false, eval a X.env) :: starEach [b] X.env := by rfl) (na2 : starEach [b] X.env = (false, eval b X.env) :: starEach [] X.env := by rfl) (hp : (backTo q (starEach [b] X.env)).any (·.1) = false := by rfl)
    (nb : starEach [.Call (.Name "range" p2) [a, b] [] q] X.env = (false, eval (.Call (.Name "range" p2) [a, b] [] q) X.env) :: starEach [] X.env := by rfl) : DE X T E (.Call (.Name "list" p) [.Call (.Name "range" p2) [a, b] [] q] [] pos) (eLRg (iRange2 f g)) :=
  pe_imp (pe_listRg hc hg hm (prg_2 hg2 hm2 ha hb na na2 hp) nb) fun σ H Q ⟨ρ, α, μ, S, sl, q⟩ => by
    have q : PQ (CvX X T) E Q H α μ ((iRange2 f g ρ μ).bind fun l μ1 => .ok (.d (.list l)) μ1) := q
    unfold iRange2 at q
    rw [R.bind_assoc] at q
    refine tD_bind S sl q fun v w H1 α1 μ1 st S1 sl1 r q1 => ?_
    rw [R.bind_assoc] at q1
    refine tD_bind S1 sl1 q1 fun v2 w2 H2 α2 μ2 st2 S2 sl2 r2 q2 => ?_
    split at q2
    · rename_i i k
      have hv : v = .int i := RpT.int (.inl r)
      have hv2 : v2 = .int k := RpT.int (.inl r2)
      split at q2
      · rename_i hb
        exact ⟨i, k, hv, hv2, lrg_go S2 (by omega) (by omega) (by omega) (by omega) q2⟩
      · exact (show False from q2).elim
    · exact (show False from q2).elim
end
end L3

set_option Elab.async false
set_option linter.all false
set_option maxRecDepth 100000
set_option maxHeartbeats 2000000
/-! Objects of own classes whose fields hold plain data: fields, methods, properties, making. -/
namespace Mi
open PySem
def mins (μ : Sto) (k : Nat) : Option (Str × List (Str × D)) := match μ[k]? with
  | some (some (.ins c fs)) => some (c, fs)
  | _ => none
def putD (f : Str) (v : D) : List (Str × D) → List (Str × D)
  | [] => [(f, v)]
  | (g, x) :: r => if g = f then (g, v) :: r else (g, x) :: putD f v r
/-- o.x, o an object of the class c -/
def eFld (c x : Str) (f : EF) : EF := fun ρ μ => (f ρ μ).bind fun w μ1 => match w with
  | .m k => (match mins μ1 k with
    | some (c', fs) => if c' = c then ofO ((fs.lookup x).map W.d) μ1 else .no
    | none => .no)
  | _ => .no
/-- o.x = e -/
def sFldS (c x : Str) (f g : EF) : SF := fun ρ μ => (g ρ μ).bindS fun w μ1 => (f ρ μ1).bindS fun o μ2 => match w, o with
  | .d d, .m k => (match mins μ2 k with
    | some (c', fs) => if c' = c ∧ fs.length < 900 then .nx ρ (μ2.set k (some (.ins c (putD x d fs)))) else .no
    | none => .no)
  | _, _ => .no
/-- o.m(..) -/
def eMeth (c m : Str) (g : GF) (f : EF) (a : AF) : EF := fun ρ μ => (f ρ μ).bind fun w μ1 => match w with
  | .m k => (match mins μ1 k with
    | some (c', fs) => if c' = c ∧ fs.lookup m = none then (a ρ μ1).bind fun ws μ2 => g (.m k :: ws) μ2 else .no
    | none => .no)
  | _ => .no
def noEr {α : Type} : R α → R α
  | .ok a μ => .ok a μ
  | _ => .no
/-- o.x, a property -/
def eProp (c : Str) (g : GF) (f : EF) : EF := fun ρ μ => (f ρ μ).bind fun w μ1 => match w with
  | .m k => (match mins μ1 k with
    | some (c', _) => if c' = c then noEr (g [.m k] μ1) else .no
    | none => .no)
  | _ => .no
/-- c(..): a new object, then __init__ -/
def eNew (c : Str) (g : GF) (a : AF) : EF := fun ρ μ => (a ρ μ).bind fun ws μ1 => (g (.m μ1.length :: ws) (μ1 ++ [some (.ins c [])])).bind fun r μ2 => match r with
  | .d .none => .ok (.m μ1.length) μ2
  | _ => .no
/-- the truth of an object by its own __bool__ -/
def eTruM (c : Str) (g : GF) (f : EF) : EF := fun ρ μ => (f ρ μ).bind fun w μ1 => match w with
  | .m k => (match mins μ1 k with
    | some (c', _) => if c' = c then (g [.m k] μ1).bind fun r μ2 => match r with
      | .d (.bool b) => .ok (.d (.bool b)) μ2
      | _ => .no
      else .no
    | none => .no)
  | _ => .no
end Mi
namespace L3
open PySem PySem.Spec PyProof.Rows L2 Mi
theorem mins_at {μ : Sto} {k : Nat} {c : Str} {fs : List (Str × D)} (h : mins μ k = some (c, fs)) : μ[k]? = some (some (.ins c fs)) := by
  unfold mins at h
  split at h
  · rename_i c' fs' e
    cases h
    exact e
  · cases h
/-- where the class stands -/
def clsAt (mg : Str → Option Value) (c : Str) : Addr := match mg c with
  | some (.ref a) => a
  | _ => 0
/-- what of the text a class must have, by its name -/
structure OwnC (K : PySem.W.Frag) (mg : Str → Option Value) (c : Str) (A : Addr) : Prop where
  at_ : mg c = some (.ref A)
  cls : Cls K A
section
variable {K : PySem.W.Frag} {H : Hp} {M : Addr → Prop}
theorem rp_lookup {x : Str} : ∀ {gs : List (Str × V)} {fs : List (Str × D)}, gs.map (·.1) = fs.map (·.1) → RpAll K H M (gs.map (·.2)) (fs.map (·.2)) → (∀ d, fs.lookup x = some d → ∃ v, gs.lookup x = some v ∧ Rp K H M v d) ∧ (fs.lookup x = none → gs.lookup x = none)
  | [], [], _, _ => ⟨fun d e => (by cases e), fun _ => rfl⟩
  | [], _ :: _, h, _ => by cases h
  | _ :: _, [], h, _ => by cases h
  | (g, v) :: gs, (f, d) :: fs, h, r => by
    simp only [List.map_cons, List.cons.injEq] at h
    obtain ⟨rfl, h⟩ := h
    cases r with
    | cons r1 r2 =>
      obtain ⟨i1, i2⟩ := rp_lookup (x := x) h r2
      by_cases e : (x == g) = true
      · refine ⟨fun d' e' => ⟨v, ?_, ?_⟩, fun e' => ?_⟩
        · rw [List.lookup_cons, e]
        · rw [List.lookup_cons, e] at e'
          cases e'
          exact r1
        · rw [List.lookup_cons, e] at e'
          cases e'
      · have e : (x == g) = false := by simpa using e
        rw [List.lookup_cons, List.lookup_cons, e]
        exact ⟨i1, i2⟩
theorem rp_put {x : Str} {v : V} {d : D} (r0 : Rp K H M v d) : ∀ {gs : List (Str × V)} {fs : List (Str × D)}, gs.map (·.1) = fs.map (·.1) → RpAll K H M (gs.map (·.2)) (fs.map (·.2)) → (putF x v gs).map (·.1) = (putD x d fs).map (·.1) ∧ RpAll K H M ((putF x v gs).map (·.2)) ((putD x d fs).map (·.2))
  | [], [], _, _ => ⟨rfl, .cons r0 .nil⟩
  | [], _ :: _, h, _ => by cases h
  | _ :: _, [], h, _ => by cases h
  | (g, y) :: gs, (f, z) :: fs, h, r => by
    simp only [List.map_cons, List.cons.injEq] at h
    obtain ⟨rfl, h⟩ := h
    cases r with
    | cons r1 r2 =>
      obtain ⟨i1, i2⟩ := rp_put r0 h r2
      unfold putF putD
      by_cases e : g = x
      · rw [if_pos e, if_pos e]
        exact ⟨by simp [h], .cons r0 r2⟩
      · rw [if_neg e, if_neg e]
        exact ⟨by simp [i1], .cons r1 i2⟩
end
section
variable {C : Cv} {H : Hp} {α : Al} {μ : Sto}
theorem own_writeI (S : Stor C H α μ) {k : Nat} {c : Str} {fs fs' : List (Str × D)} {a A dx : Addr} {gs gs' : List (Str × V)} (hk : μ[k]? = some (some (.ins c fs))) (ha : α.own[k]? = some a) (hA : C.mg c = some (.ref A)) (hx : H a = some (.ins A dx gs))
    (hn : gs'.map (·.1) = fs'.map (·.1)) (r : RpAll C.K H (Own α μ) (gs'.map (·.2)) (fs'.map (·.2))) :
    Step H α μ (upd H a (.ins A dx gs')) α (μ.set k (some (.ins c fs'))) ∧ Stor C (upd H a (.ins A dx gs')) α (μ.set k (some (.ins c fs'))) := by
  have oa : Own α μ a := .inl ⟨k, _, ha, hk⟩
  have st : Step H α μ (upd H a (.ins A dx gs')) α (μ.set k (some (.ins c fs'))) := by
    refine ⟨⟨fun b o h n _ => ⟨?_, fun z => n ((own_set' hk).mp z)⟩, fun b ys h => ?_, fun b o u h => ?_⟩, fun _ _ h => h, rfl, fun b hb => ?_⟩
    · rw [upd_ne (fun e => n (by rw [e]; exact oa))]; exact h
    · rw [upd_ne (fun e => by rw [e, hx] at h; cases h)]; exact h
    · rw [upd_ne (fun e => by rw [e, hx] at h; cases h)]; exact h
    · rw [upd_ne (fun e => S.nohid ha (by rw [← e]; exact hb))]
  refine ⟨st, by rw [List.length_set]; exact S.len, S.nd, fun b hb => ?_, fun j c' h => ?_, ?_⟩
  · by_cases e : b = a
    · rw [e]; exact ⟨_, upd_same, fun _ z => by cases z⟩
    · rw [upd_ne e]; exact S.there b hb
  · by_cases e : k = j
    · subst e
      rw [List.getElem?_set_self (List.getElem?_eq_some_iff.mp hk).1] at h
      cases h
      exact ⟨a, ha, A, dx, gs', hA, upd_same, hn, r.ext st.ext⟩
    · rw [List.getElem?_set_ne e] at h
      obtain ⟨b, h1, h2⟩ := S.cell j c' h
      have ne : b ≠ a := fun z => e (S.uniq ha (by rw [← z]; exact h1))
      refine ⟨b, h1, ?_⟩
      cases c' with
      | lst l => obtain ⟨ys, e1, e2⟩ := h2; exact ⟨ys, by rw [upd_ne ne]; exact e1, e2.ext st.ext⟩
      | ins c fs => obtain ⟨A, dx, gs, e1, e2, e3, e4⟩ := h2; exact ⟨A, dx, gs, e1, by rw [upd_ne ne]; exact e2, e3, e4.ext st.ext⟩
  · intro p hp
    obtain ⟨ps, h1, h2, h3⟩ := S.tabs p hp
    have ne : p.1 ≠ a := fun e => by rw [e, hx] at h1; cases h1
    refine ⟨ps, by rw [upd_ne ne]; exact h1, h2, fun pos cv hc => ?_⟩
    obtain ⟨c, e1, e2⟩ := h3 pos cv hc
    refine ⟨c, e1, ?_⟩
    rw [upd_ne (fun e => by rw [e, hx] at e2; cases e2)]
    exact e2
theorem same_make {H : Hp} {x dx A : Addr} (hx : H x = none) (hd : H dx = none) (ne : dx ≠ x) : Same H (upd (upd H dx (.own x)) x (.ins A dx [])) := fun b o h => by
  rw [upd_ne (ne_of_none h hx), upd_ne (ne_of_none h hd)]
  exact h
theorem step_make (S : Stor C H α μ) {x dx A : Addr} (c : Str) (hx : H x = none) (hd : H dx = none) (ne : dx ≠ x) : Step H α μ (upd (upd H dx (.own x)) x (.ins A dx [])) (α.push x) (μ ++ [some (.ins c [])]) := by
  have sm := same_make (A := A) hx hd ne
  refine ⟨⟨fun b o h n _ => ⟨sm b o h, fun z => ?_⟩, fun b xs h => sm b _ h, fun b o u h => sm b _ h⟩, fun k a h => ?_, rfl, (Same.step S sm).keep⟩
  · rcases (own_push S.len).mp z with z | z
    · exact n z
    · rw [z, hx] at h; cases h
  · show (α.own ++ [x])[k]? = _
    rw [List.getElem?_append_left (List.getElem?_eq_some_iff.mp h).1]
    exact h
theorem stor_make (S : Stor C H α μ) {x dx A : Addr} {c : Str} (hA : C.mg c = some (.ref A)) (hx : H x = none) (hd : H dx = none) (ne : dx ≠ x) : Stor C (upd (upd H dx (.own x)) x (.ins A dx [])) (α.push x) (μ ++ [some (.ins c [])]) := by
  have sm := same_make (A := A) hx hd ne
  have st := step_make (A := A) S c hx hd ne
  have fresh : ∀ a ∈ α.own ++ α.hid, a ≠ x := fun a ha e => by
    obtain ⟨o, q, _⟩ := S.there a ha
    rw [e, hx] at q; cases q
  refine ⟨by simp [Al.push, S.len], ?_, fun a h => ?_, fun k c' h => ?_, S.tabs.ext sm⟩
  · show ((α.own ++ [x]) ++ α.hid).Nodup
    have h := S.nd
    rw [List.append_assoc, List.singleton_append, List.Perm.nodup_iff List.perm_middle]
    exact List.nodup_cons.mpr ⟨fun z => fresh x z rfl, h⟩
  · have h : a ∈ (α.own ++ [x]) ++ α.hid := h
    by_cases e : a = x
    · subst e
      exact ⟨_, upd_same, fun _ z => by cases z⟩
    · have hm : a ∈ α.own ++ α.hid := by
        rcases List.mem_append.mp h with h | h
        · rcases List.mem_append.mp h with h | h
          · exact List.mem_append_left _ h
          · exact absurd (by simpa using h) e
        · exact List.mem_append_right _ h
      obtain ⟨o, q, n⟩ := S.there a hm
      exact ⟨o, sm _ _ q, n⟩
  · by_cases hk : k < μ.length
    · rw [List.getElem?_append_left hk] at h
      obtain ⟨a, h1, h2⟩ := S.cell k c' h
      refine ⟨a, st.pre _ _ h1, ?_⟩
      cases c' with
      | lst l => obtain ⟨ys, e1, e2⟩ := h2; exact ⟨ys, sm _ _ e1, e2.ext st.ext⟩
      | ins c fs => obtain ⟨A, dx, gs, e1, e2, e3, e4⟩ := h2; exact ⟨A, dx, gs, e1, sm _ _ e2, e3, e4.ext st.ext⟩
    · rw [List.getElem?_append_right (by omega)] at h
      by_cases hz : k - μ.length = 0
      · rw [hz] at h
        cases h
        refine ⟨x, ?_, A, dx, [], hA, upd_same, rfl, .nil⟩
        show (α.own ++ [x])[k]? = _
        rw [List.getElem?_append_right (by rw [S.len]; omega), S.len, hz]
        rfl
      · rw [List.getElem?_eq_none (by simp; omega)] at h
        cases h
end
/-! ### methods -/
structure HasM (P : Program) (w : World) (K : PySem.W.Frag) (mg : Str → Option Value) (base : Heap) (T : List (Addr × Str)) (k : Nat) (A : Addr) (m : Str) (g : GF) : Prop where
  ex : ∃ f fd ps ds dvs dd g0, Meth K A m f ∧ Binds K fd ps ds ∧ Vals dvs ds ∧ (∀ H M, RpAll K H M dvs dd) ∧ (∀ ws μ, g ws μ = g0 (ws ++ dd.map W.d) μ) ∧
    FnOk P w K mg base (L2N.CX P w) k f fd ps (spD ⟨K, mg, T⟩ g0)
structure HasMk (P : Program) (w : World) (K : PySem.W.Frag) (mg : Str → Option Value) (base : Heap) (T : List (Addr × Str)) (k : Nat) (A : Addr) (g : GF) : Prop where
  ex : ∃ f fd ps ds dvs dd g0, Mk K A f ∧ Binds K fd ps ds ∧ Vals dvs ds ∧ (∀ H M, RpAll K H M dvs dd) ∧ (∀ ws μ, g ws μ = g0 (ws ++ dd.map W.d) μ) ∧
    FnOk P w K mg base (L2N.CX P w) k f fd ps (spD ⟨K, mg, T⟩ g0)
structure HasP (P : Program) (w : World) (K : PySem.W.Frag) (mg : Str → Option Value) (base : Heap) (T : List (Addr × Str)) (k : Nat) (A : Addr) (x : Str) (g : GF) : Prop where
  ex : ∃ p f fd ps, PropOf K A x p f ∧ Binds K fd ps [] ∧ FnOk P w K mg base (L2N.CX P w) k f fd ps (spD ⟨K, mg, T⟩ g)
section
variable {X : Cx} {T : List (Addr × Str)} {E : XK} {j : Nat} {pos apos : Pos} {tg a b c0 o e : Expr} {f g h : EF} {es : List Expr} {r : AF} {c x m : Str} {A : Addr}
theorem de_fld (oc : OwnC X.K X.mg c A) (na : NoAttr X.K A x) (ha : DE X T E a f) (hb : attributeBase a x X.env (eval a X.env) = eval a X.env := by rfl) : DE X T E (.Attribute a x pos) (eFld c x f) :=
  pe_imp (pe_fld ha hb) fun σ H Q ⟨ρ, α, μ, S, sl, q⟩ => tD_bind S sl q fun v w H1 α1 μ1 st1 S1 sl1 r1 q1 => by
    cases w with
    | m k =>
      dsimp only at q1
      split at q1
      · rename_i c' fs e1
        split at q1
        · rename_i ec
          subst ec
          obtain ⟨p, hp, rfl⟩ := r1
          obtain ⟨p', hp', B, dx, gs, hB, hx, hn, rr⟩ := S1.cell k _ (mins_at e1)
          rw [hp] at hp'; cases hp'
          have hB : X.mg c' = some (.ref B) := hB
          rw [oc.at_] at hB
          cases hB
          obtain ⟨z, e2, q2⟩ := PQ.ofO q1
          cases e3 : fs.lookup x with
          | none => rw [e3] at e2; cases e2
          | some d =>
            rw [e3] at e2
            cases e2
            obtain ⟨v, e4, rv⟩ := (rp_lookup hn rr).1 d e3
            exact ⟨p, A, dx, gs, v, rfl, hx, oc.cls, na, e4, q2 v H1 α1 (.refl _ _ _) S1 rv⟩
        · exact (show False from q1).elim
      · exact (show False from q1).elim
    | _ => exact (show False from q1).elim
theorem ds_fld {p' : Pos} (oc : OwnC X.K X.mg c A) (na : NoAttr X.K A x) (ha : DE X T E o f) (hv : DE X T E e g) (hs : swapsWith e (some (.Attribute o x p')) pos.line X.env = pure false := by rfl) : DS X T E (.Assign [.Attribute o x p'] e pos) (sFldS c x f g) :=
  ps_imp (ps_fld ha hv hs) fun D σ H ⟨ρ, α, μ, S, sl, q⟩ => tD_bindS S sl q fun v w H1 α1 μ1 st1 S1 sl1 r1 q1 => tD_bindS S1 sl1 q1 fun v2 w2 H2 α2 μ2 st2 S2 sl2 r2 q2 => by
    split at q2
    · rename_i d k
      split at q2
      · rename_i c' fs e1
        split at q2
        · rename_i ec
          obtain ⟨ec, hl⟩ := ec
          subst ec
          obtain ⟨p, hp, rfl⟩ := r2
          obtain ⟨p', hp', B, dx, gs, hB, hx, hn, rr⟩ := S2.cell k _ (mins_at e1)
          rw [hp] at hp'; cases hp'
          have hB2 : X.mg c' = some (.ref B) := hB
          rw [oc.at_] at hB2
          cases hB2
          have r1' : Rp X.K H2 (Own α2 μ2) v d := r1.step st2
          obtain ⟨n1, n2⟩ := rp_put (x := x) r1' hn rr
          obtain ⟨st3, S3⟩ := own_writeI S2 (mins_at e1) hp hB hx n1 n2
          have lg : gs.length = fs.length := by have := congrArg List.length hn; simpa using this
          exact ⟨p, A, dx, gs, rfl, hx, oc.cls, na, by omega, QS.nx S3 (sl2.step st3) (QS.step q2 st3)⟩
        · exact (show False from q2).elim
      · exact (show False from q2).elim
    · exact (show False from q2).elim
theorem de_meth {k : Nat} {gf : GF} {pl : Sem Bool} (ck : CK X E j) (oc : OwnC X.K X.mg c A) (hf : HasM X.prog X.w X.K X.mg X.base T k A m gf) (ho : DE X T E o f) (hr : DA X T E (e :: es) r) (hk : k ≤ j := by decide)
    (hst : starEach (e :: es) X.env = (false, eval e X.env) :: starEach es X.env := by rfl) (hpl : (backTo pos (starEach es X.env)).any (·.1) = false := by rfl)
    (ht : eval (.Call (.Attribute o m apos) (e :: es) [] pos) X.env = (do
      let ov ← eval o X.env
      standAt apos.atName
      let (f, first) ← holding [ov] (getMethod ov m pl)
      callWith pos f first (backTo pos (starEach (e :: es) X.env)) (backToKw pos (keywordEach [] X.env))) := by rfl) : DE X T E (.Call (.Attribute o m apos) (e :: es) [] pos) (eMeth c m gf f r) := by
  obtain ⟨fa, fd, ps, ds, dvs, dd, g0, h2, h3, h4, h5, h6, h7⟩ := hf.ex
  refine pe_imp (pe_meth (pl := pl) ho oc.cls h2 h7 (ck.room.mono hk) h3 h4 ck.passes hr.pa hst hpl ht) fun σ H Q ⟨ρ, α, μ, S, sl, q⟩ => tD_bind S sl q fun v w H1 α1 μ1 st1 S1 sl1 r1 q1 => ?_
  cases w with
  | m k0 =>
    dsimp only at q1
    split at q1
    · rename_i c' fs e1
      split at q1
      · rename_i ec
        obtain ⟨ec, hl⟩ := ec
        subst ec
        obtain ⟨p, hp, rfl⟩ := r1
        obtain ⟨p', hp', B, dx, gs, hB, hx, hn, rr⟩ := S1.cell k0 _ (mins_at e1)
        rw [hp] at hp'; cases hp'
        have hB : X.mg c' = some (.ref B) := hB
        rw [oc.at_] at hB
        cases hB
        refine ⟨p, dx, gs, rfl, hx, (rp_lookup hn rr).2 hl, ?_⟩
        refine hr.read (C := CvX X T) S1 sl1 q1 fun vs ws H2 α2 μ2 st S2 sl2 rs ln q2 => ?_
        rw [h6] at q2
        exact ⟨.m k0 :: (ws ++ dd.map W.d), α2, μ2, S2, RpWs.cons (w := .m k0) ⟨p, st.pre _ _ hp, rfl⟩ (rs.append (RpAll.ws (h5 _ _))), q2⟩
      · exact (show False from q1).elim
    · exact (show False from q1).elim
  | _ => exact (show False from q1).elim
theorem de_meth0 {k : Nat} {gf : GF} {pl : Sem Bool} (ck : CK X E j) (oc : OwnC X.K X.mg c A) (hf : HasM X.prog X.w X.K X.mg X.base T k A m gf) (ho : DE X T E o f) (hk : k ≤ j := by decide)
    (ht : eval (.Call (.Attribute o m apos) [] [] pos) X.env = (do
      let ov ← eval o X.env
      standAt apos.atName
      let (f, first) ← holding [ov] (getMethod ov m pl)
      callWith pos f first (backTo pos (starEach [] X.env)) (backToKw pos (keywordEach [] X.env))) := by rfl) : DE X T E (.Call (.Attribute o m apos) [] [] pos) (eMeth c m gf f aNil) := by
  obtain ⟨fa, fd, ps, ds, dvs, dd, g0, h2, h3, h4, h5, h6, h7⟩ := hf.ex
  refine pe_imp (pe_meth0 (pl := pl) ho oc.cls h2 h7 (ck.room.mono hk) h3 h4 ck.passes ht) fun σ H Q ⟨ρ, α, μ, S, sl, q⟩ => tD_bind S sl q fun v w H1 α1 μ1 st1 S1 sl1 r1 q1 => ?_
  cases w with
  | m k0 =>
    dsimp only at q1
    split at q1
    · rename_i c' fs e1
      split at q1
      · rename_i ec
        obtain ⟨ec, hl⟩ := ec
        subst ec
        obtain ⟨p, hp, rfl⟩ := r1
        obtain ⟨p', hp', B, dx, gs, hB, hx, hn, rr⟩ := S1.cell k0 _ (mins_at e1)
        rw [hp] at hp'; cases hp'
        have hB : X.mg c' = some (.ref B) := hB
        rw [oc.at_] at hB
        cases hB
        have q1 : PQ (CvX X T) E Q H1 α1 μ1 (gf [.m k0] μ1) := q1
        rw [h6] at q1
        exact ⟨p, dx, gs, rfl, hx, (rp_lookup hn rr).2 hl, .m k0 :: dd.map W.d, α1, μ1, S1, RpWs.cons (w := .m k0) ⟨p, hp, rfl⟩ (RpAll.ws (h5 _ _)), q1⟩
      · exact (show False from q1).elim
    · exact (show False from q1).elim
  | _ => exact (show False from q1).elim
theorem passes_no {CX0 : CXT} {X0 : Cx} (h : Passes CX0 X0 (fun _ _ _ => False)) : Passes CX0 X0 (fun _ _ _ => False) := h
theorem de_new {k : Nat} {gf : GF} {p : Pos} (ck : CK X E j) (hc : X.mg c = some (.ref A)) (hf : HasMk X.prog X.w X.K X.mg X.base T k A gf) (hr : DA X T E (e :: es) r) (hk : k + 1 ≤ j := by decide) (hg : Gl X c := by rfl) (hdb : (c == ("__debug__" : Str)) = false := by decide)
    (he : starEach (e :: es) X.env = (false, eval e X.env) :: starEach es X.env := by rfl) (hpl : (backTo pos (starEach es X.env)).any (·.1) = false := by rfl) : DE X T E (.Call (.Name c p) (e :: es) [] pos) (eNew c gf r) := by
  obtain ⟨fa, fd, ps, ds, dvs, dd, g0, h2, h3, h4, h5, h6, h7⟩ := hf.ex
  refine pe_imp (pe_make h2 h7 (ck.room.mono hk) hg hc h3 h4 ck.passes hr.pa hdb he hpl) fun σ H Q ⟨ρ, α, μ, S, sl, q⟩ => ?_
  refine hr.read (C := CvX X T) S sl q fun vs ws H1 α1 μ1 st S1 sl1 rs ln q1 => ?_
  intro x dx hx hd ne
  have st2 := step_make (A := A) S1 c hx hd ne
  have S2 := stor_make (c := c) (A := A) S1 hc hx hd ne
  refine ⟨.m μ1.length :: (ws ++ dd.map W.d), α1.push x, μ1 ++ [some (.ins c [])], S2, RpWs.cons (w := .m μ1.length) ⟨x, ?_, rfl⟩ ((rs.step st2).append (RpAll.ws (h5 _ _))), ?_⟩
  · show (α1.own ++ [x])[_]? = _
    rw [← S1.len]
    simp
  · have q1 := q1
    rw [h6] at q1
    have q2 : PQ (CvX X T) E Q H1 α1 μ1 ((g0 (.m μ1.length :: ws ++ dd.map W.d) (μ1 ++ [some (.ins c [])])).bind fun r μ2 => match r with
      | .d .none => .ok (.m μ1.length) μ2
      | _ => .no) := q1
    have q3 := q2.step st2
    rw [List.cons_append] at q3
    cases e0 : g0 (.m μ1.length :: (ws ++ dd.map W.d)) (μ1 ++ [some (.ins c [])]) with
    | ok w3 μ3 =>
      rw [e0] at q3
      intro v H' α' st3 S3 rv
      cases w3 with
      | d d =>
        cases d with
        | none =>
          have hv : v = .non := by cases rv; rfl
          refine ⟨hv, ?_⟩
          have q4 : PQ (CvX X T) E Q (upd (upd H1 dx (.own x)) x (.ins A dx [])) (α1.push x) (μ1 ++ [some (.ins c [])]) (.ok (.m μ1.length) μ3) := q3
          refine q4 (.ref x) H' α' st3 S3 ⟨x, st3.pre _ _ ?_, rfl⟩
          show (α1.own ++ [x])[_]? = _
          rw [← S1.len]
          simp
        | _ => exact (show False from q3).elim
      | _ => exact (show False from q3).elim
    | er x3 μ3 =>
      rw [e0] at q3
      exact q3
    | no =>
      rw [e0] at q3
      exact q3
theorem pass_e0 {P0 : Program} {w0 : World} {X0 : Cx} : Passes (L2N.CX P0 w0) X0 (fun _ _ _ => False) := fun pins σ H s e s' _ h => by
  obtain ⟨_, _, _, _, _, _, _, _, _, _, _, _, hE⟩ := h
  exact hE.elim
theorem de_prop {k : Nat} {gf : GF} (ck : CK X E j) (oc : OwnC X.K X.mg c A) (hf : HasP X.prog X.w X.K X.mg X.base T k A x gf) (ha : DE X T E a f) (hk : k + 1 ≤ j := by decide) (hb : attributeBase a x X.env (eval a X.env) = eval a X.env := by rfl) : DE X T E (.Attribute a x pos) (eProp c gf f) := by
  obtain ⟨p0, fa, fd, ps, h1, h2, h3⟩ := hf.ex
  refine pe_imp (pe_prop (E := fun _ _ _ => False) ha oc.cls h1 h3 (ck.room.mono hk) h2 .nil pass_e0 hb) fun σ H Q ⟨ρ, α, μ, S, sl, q⟩ => tD_bind S sl q fun v w H1 α1 μ1 st1 S1 sl1 r1 q1 => ?_
  cases w with
  | m k0 =>
    dsimp only at q1
    split at q1
    · rename_i c' fs e1
      split at q1
      · rename_i ec
        subst ec
        obtain ⟨p, hp, rfl⟩ := r1
        obtain ⟨p', hp', B, dx, gs, hB, hx, hn, rr⟩ := S1.cell k0 _ (mins_at e1)
        rw [hp] at hp'; cases hp'
        have hB : X.mg c' = some (.ref B) := hB
        rw [oc.at_] at hB
        cases hB
        refine ⟨p, dx, gs, rfl, hx, [.m k0], α1, μ1, S1, RpWs.cons (w := .m k0) ⟨p, hp, rfl⟩ .nil, ?_⟩
        cases e0 : gf [.m k0] μ1 with
        | ok w3 μ3 =>
          rw [e0] at q1
          exact q1
        | er x3 μ3 =>
          rw [e0] at q1
          exact (show False from q1).elim
        | no =>
          rw [e0] at q1
          exact (show False from q1).elim
      · exact (show False from q1).elim
    · exact (show False from q1).elim
  | _ => exact (show False from q1).elim
theorem truthy_I {K0 : PySem.W.Frag} {M : Model} {A0 : Around} {s : Shared} {y C1 fm : Addr} {ox : Obj} {od : Option Obj} {E1 : Value → Shared → Prop} {Q : Bool → Shared → Prop} (X0 : K0.In s.heap) (I : PySem.W.InstAt s.heap y ox C1 od) (hs : PySem.W.findIn K0 (.ref C1) "__bool__" = some (some (.ref fm))) (hf : PySem.W.isFn K0 (.ref fm) = true)
    (h : wpAny M A0 (call (.ref fm) [.ref y]) (PySem.W.BoolBack Q) E1 s) : wpAny M A0 (truthy (.ref y)) Q E1 s := by
  unfold truthy
  refine wpAny_bind (m := callSpecial? (.ref y) (Str.ofString "__bool__")) (PySem.W.special_fn X0 I hs (beq_iff_eq.mp hf) (wpAny_mono h (fun r s' hr => ?_) fun _ _ y => y))
  cases r <;> first | exact hr.elim | skip
  exact wpAny_pure hr
theorem pt_own {CX0 : CXT} {k : Nat} {C1 fm : Addr} {fd : FuncData} {ps : List Str} {sp : Sp} {dvs : List V} {ds : List Value} {E1 : XK} {ta : TE} (he : PE X a ta) (hm : Meth X.K C1 "__bool__" fm) (F : FnOk X.prog X.w X.K X.mg X.base CX0 k fm fd ps sp) (hr : Room k X.A) (hb : Binds X.K fd ps ds) (hd : Vals dvs ds) (hx : Passes CX0 X E1)
    (ht : ∀ whole, isTrue a X.env whole = (do let v ← whole; standAt a.pos; holding [v] (truthy v))) :
    PT X a (fun σ H Q => ta σ H fun x H1 => ∃ p dx fs, x = .ref p ∧ H1 p = some (.ins C1 dx fs) ∧ sp (.ref p :: dvs) H1 (fun v H2 => ∃ b, v = .bl b ∧ Q b H2) E1) := by
  refine ⟨fun pins s σ H Q I h => ?_⟩
  refine isTrue_plain (thn (he.run pins s σ H _ I h) fun u s1 ⟨x, H1, I1, rx, p, dx, fs, ex, ea, q⟩ => ?_) (ht _)
  subst ex
  obtain rfl : u = Value.ref p := rx
  obtain ⟨mA, O, _, _, _, _⟩ := ins_get I1.hok ea
  obtain ⟨od, J, _⟩ := O.look
  refine truthy_I I1.kIn J hm.at_ hm.fn (wpAny_mono (run_fn (us := [.ref p]) (vs := [.ref p]) F hr hb hd hx I1 (.cons rfl .nil) q) (fun r s' hr => ?_) fun _ _ y => y)
  obtain ⟨v, H2, I2, rv, b, rfl, q2⟩ := hr
  cases rv
  exact ⟨H2, I2, q2⟩
theorem dt_truM {k : Nat} {gf : GF} (ck : CK X E j) (oc : OwnC X.K X.mg c A) (hf : HasM X.prog X.w X.K X.mg X.base T k A "__bool__" gf) (ha : DE X T E a f) (hk : k ≤ j := by decide)
    (ht : ∀ whole, isTrue a X.env whole = (do let v ← whole; standAt a.pos; holding [v] (truthy v)) := by intro _; rfl) : DT X T E a (eTruM c gf f) := by
  obtain ⟨fa, fd, ps, ds, dvs, dd, g0, h2, h3, h4, h5, h6, h7⟩ := hf.ex
  refine pt_imp (pt_own ha h2 h7 (ck.room.mono hk) h3 h4 ck.passes ht) fun σ H Q ⟨ρ, α, μ, S, sl, q⟩ => tD_bind S sl q fun v w H1 α1 μ1 st1 S1 sl1 r1 q1 => ?_
  cases w with
  | m k0 =>
    dsimp only at q1
    split at q1
    · rename_i c' fs e1
      split at q1
      · rename_i ec
        subst ec
        obtain ⟨p, hp, rfl⟩ := r1
        obtain ⟨p', hp', B, dx, gs, hB, hx, hn, rr⟩ := S1.cell k0 _ (mins_at e1)
        rw [hp] at hp'; cases hp'
        have hB : X.mg c' = some (.ref B) := hB
        rw [oc.at_] at hB
        cases hB
        rw [h6] at q1
        refine ⟨p, dx, gs, rfl, hx, .m k0 :: dd.map W.d, α1, μ1, S1, RpWs.cons (w := .m k0) ⟨p, hp, rfl⟩ (RpAll.ws (h5 _ _)), ?_⟩
        have q1 : PQ (CvX X T) E (fun v H1 => ∃ b, v = .bl b ∧ Q b H1) H1 α1 μ1 ((g0 (.m k0 :: dd.map W.d) μ1).bind fun r μ2 => match r with
          | .d (.bool b) => .ok (.d (.bool b)) μ2
          | _ => .no) := q1
        cases e0 : g0 (.m k0 :: dd.map W.d) μ1 with
        | ok w3 μ3 =>
          rw [e0] at q1
          intro v H' α' st3 S3 rv
          cases w3 with
          | d d =>
            cases d with
            | bool b =>
              have q2 : PQ (CvX X T) E (fun v H1 => ∃ b, v = .bl b ∧ Q b H1) H1 α1 μ1 (.ok (.d (.bool b)) μ3) := q1
              exact q2 v H' α' st3 S3 rv
            | _ => exact (show False from q1).elim
          | _ => exact (show False from q1).elim
        | er x3 μ3 =>
          rw [e0] at q1
          exact q1
        | no =>
          rw [e0] at q1
          exact q1
      · exact (show False from q1).elim
    · exact (show False from q1).elim
  | _ => exact (show False from q1).elim
end
/-! ### methods by their text -/
section
variable {P : Program} {w : World} {K : PySem.W.Frag} {mg : Str → Option Value} {base : Heap} {T : List (Addr × Str)}
theorem fn_okQ {nm x : Str} {params : Arguments} {body : List Stmt} {scope : Scope} {dvs : List V} {kws : List (Str × V)} {f : Addr} {fd : FuncData} {N ps : List Str} {k : Nat} {F : SF} (Fu : FunD K nm x params body scope dvs kws f fd) (S : FnScope N ps scope)
    (hbody : ∀ (cdv : Value) (A : Around) (outer : List PySem.Env) (s : Shared) (H : Hp) (E : XK), CK (cxOf (L2N.CX P w) P w K mg base N x scope f cdv A outer s H E) E k →
      PassesOwn (model P w) (cxOf (L2N.CX P w) P w K mg base N x scope f cdv A outer s H E).A (cxOf (L2N.CX P w) P w K mg base N x scope f cdv A outer s H E).env (cxOf (L2N.CX P w) P w K mg base N x scope f cdv A outer s H E).xe →
      DSs (cxOf (L2N.CX P w) P w K mg base N x scope f cdv A outer s H E) T E body F) : FnOk P w K mg base (L2N.CX P w) (k + 1) f fd ps (spD ⟨K, mg, T⟩ (fnOf ps.length N.length F)) := by
  refine Fu.ok S (fun vs H Q E h => ?_) fun cdv A outer s H vs Q E hr h => ?_
  · obtain ⟨ws, α, μ, S, rs, q⟩ := h
    unfold fnOf at q
    split at q
    · rename_i hl
      rw [rs.length]
      exact hl
    · exact q.elim
  · obtain ⟨ws, α, μ, St, rs, q⟩ := h
    have tk : L2N.Takes (cxOf (L2N.CX P w) P w K mg base N x scope f cdv A outer s H E) (fun cls d _ H => E cls d H) := L2N.takes_of rfl rfl rfl rfl
    refine ⟨_, hbody cdv A outer s H E ⟨rfl, S.nd, hr, tk⟩ (passes_of rfl), ?_⟩
    unfold fnOf at q
    split at q
    · rename_i hl
      refine ⟨startE N.length ws, α, μ, St, ⟨?_, ?_⟩, fin_ok (D := { nx := fun _ H' => Q .non H', rt := Q }) St ⟨rfl, rfl⟩ q⟩
      · have e := rs.length
        simp only [startE, L2.start, List.length_append, List.length_map, List.length_replicate, e]
      · have e := rs.length
        have z := Sl.start rs (N.length - ws.length)
        unfold startE L2.start
        rw [e]
        exact z
    · exact q.elim
/-- a method stands in its class, its parameters bound in their order -/
structure MethFact (K : PySem.W.Frag) (A : Addr) (m qual : Str) (st : Stmt) (ps : List Str) : Prop where
  ex : ∃ f fd dvs kws, FunD K m qual (defArgs st) (defBody st) (defScope st) dvs kws f fd ∧ Meth K A m f ∧ Binds K fd ps []
structure InitFact (K : PySem.W.Frag) (A : Addr) (qual : Str) (st : Stmt) (ps : List Str) : Prop where
  ex : ∃ f fd dvs kws, FunD K "__init__" qual (defArgs st) (defBody st) (defScope st) dvs kws f fd ∧ Mk K A f ∧ Binds K fd ps []
structure PropFact (K : PySem.W.Frag) (A : Addr) (x qual : Str) (st : Stmt) (ps : List Str) : Prop where
  ex : ∃ p f fd dvs kws, FunD K x qual (defArgs st) (defBody st) (defScope st) dvs kws f fd ∧ PropOf K A x p f ∧ Binds K fd ps []
theorem meth_ok {A : Addr} {m x : Str} {st : Stmt} {N ps : List Str} {k : Nat} {F : SF} (d : MethFact K A m x st ps) (S : FnScope N ps (defScope st))
    (hbody : ∀ (f : Addr) (cdv : Value) (A : Around) (outer : List PySem.Env) (s : Shared) (H : Hp) (E : XK), CK (cxOf (L2N.CX P w) P w K mg base N x (defScope st) f cdv A outer s H E) E k →
      PassesOwn (model P w) (cxOf (L2N.CX P w) P w K mg base N x (defScope st) f cdv A outer s H E).A (cxOf (L2N.CX P w) P w K mg base N x (defScope st) f cdv A outer s H E).env (cxOf (L2N.CX P w) P w K mg base N x (defScope st) f cdv A outer s H E).xe →
      DSs (cxOf (L2N.CX P w) P w K mg base N x (defScope st) f cdv A outer s H E) T E (defBody st) F) : HasM P w K mg base T (k + 1) A m (fnOf ps.length N.length F) := by
  obtain ⟨f, fd, dvs, kws, Fu, hm, hb⟩ := d.ex
  exact ⟨f, fd, ps, [], [], [], _, hm, hb, .nil, fun _ _ => .nil, fun ws μ => by rw [List.map_nil, List.append_nil], fn_okQ Fu S (hbody f)⟩
theorem init_ok {A : Addr} {x : Str} {st : Stmt} {N ps : List Str} {k : Nat} {F : SF} (d : InitFact K A x st ps) (S : FnScope N ps (defScope st))
    (hbody : ∀ (f : Addr) (cdv : Value) (A : Around) (outer : List PySem.Env) (s : Shared) (H : Hp) (E : XK), CK (cxOf (L2N.CX P w) P w K mg base N x (defScope st) f cdv A outer s H E) E k →
      PassesOwn (model P w) (cxOf (L2N.CX P w) P w K mg base N x (defScope st) f cdv A outer s H E).A (cxOf (L2N.CX P w) P w K mg base N x (defScope st) f cdv A outer s H E).env (cxOf (L2N.CX P w) P w K mg base N x (defScope st) f cdv A outer s H E).xe →
      DSs (cxOf (L2N.CX P w) P w K mg base N x (defScope st) f cdv A outer s H E) T E (defBody st) F) : HasMk P w K mg base T (k + 1) A (fnOf ps.length N.length F) := by
  obtain ⟨f, fd, dvs, kws, Fu, hm, hb⟩ := d.ex
  exact ⟨f, fd, ps, [], [], [], _, hm, hb, .nil, fun _ _ => .nil, fun ws μ => by rw [List.map_nil, List.append_nil], fn_okQ Fu S (hbody f)⟩
theorem prop_ok {A : Addr} {y x : Str} {st : Stmt} {N ps : List Str} {k : Nat} {F : SF} (d : PropFact K A y x st ps) (S : FnScope N ps (defScope st))
    (hbody : ∀ (f : Addr) (cdv : Value) (A : Around) (outer : List PySem.Env) (s : Shared) (H : Hp) (E : XK), CK (cxOf (L2N.CX P w) P w K mg base N x (defScope st) f cdv A outer s H E) E k →
      PassesOwn (model P w) (cxOf (L2N.CX P w) P w K mg base N x (defScope st) f cdv A outer s H E).A (cxOf (L2N.CX P w) P w K mg base N x (defScope st) f cdv A outer s H E).env (cxOf (L2N.CX P w) P w K mg base N x (defScope st) f cdv A outer s H E).xe →
      DSs (cxOf (L2N.CX P w) P w K mg base N x (defScope st) f cdv A outer s H E) T E (defBody st) F) : HasP P w K mg base T (k + 1) A y (fnOf ps.length N.length F) := by
  obtain ⟨p, f, fd, dvs, kws, Fu, hm, hb⟩ := d.ex
  exact ⟨p, f, fd, ps, hm, hb, fn_okQ Fu S (hbody f)⟩
end
end L3

set_option Elab.async false
set_option linter.all false
set_option maxRecDepth 100000
set_option maxHeartbeats 2000000
/-! min of a list of tuples of ints; x > y of such tuples. -/
namespace Mi
open PySem
def intsT : D → Option (List Int)
  | .tuple l => intsOf l
  | _ => none
/-- x < y, number by number -/
def ltL : List Int → List Int → Bool
  | [], [] => false
  | [], _ :: _ => true
  | _ :: _, [] => false
  | x :: xs, y :: ys => if x = y then ltL xs ys else decide (x < y)
def tupsOf : List D → Option (List (List Int))
  | [] => some []
  | d :: r => (intsT d).bind fun t => (tupsOf r).map (t :: ·)
def minT : List Int → List (List Int) → List Int
  | a, [] => a
  | a, b :: r => minT (if ltL b a = true then b else a) r
def tupI (t : List Int) : D := .tuple (t.map .int)
def bMinT : List D → Option D
  | [.list l] => (tupsOf l).bind fun ts => match ts with
    | [] => none
    | a :: r => some (tupI (minT a r))
  | _ => none
def bMinA (ds : List D) : Option D := match bMin1 ds with
  | some z => some z
  | none => bMinT ds
def bBool : List D → Option D
  | [.int i] => some (.bool (i != 0))
  | [.bool b] => some (.bool b)
  | _ => none
def dGtT : D → D → Option D
  | .int a, .int b => some (.bool (decide (b < a)))
  | .tuple x, .tuple y => (intsOf x).bind fun xs => (intsOf y).map fun ys => .bool (ltL ys xs)
  | _, _ => none
end Mi
namespace L3
open PySem PySem.Spec PyProof.Rows L2 Mi
theorem intsOf_map : ∀ {l : List D} {ns : List Int}, intsOf l = some ns → l = ns.map .int
  | [], ns, e => by cases e; rfl
  | .int x :: r, ns, e => by
    unfold intsOf at e
    cases e1 : intsOf r with
    | none => rw [e1] at e; cases e
    | some ms =>
      rw [e1] at e
      cases e
      rw [intsOf_map e1]
      rfl
theorem intsT_eq {d : D} {t : List Int} (e : intsT d = some t) : d = tupI t := by
  unfold intsT at e
  split at e
  · rw [intsOf_map e]; rfl
  · cases e
theorem tupsOf_map : ∀ {l : List D} {ts : List (List Int)}, tupsOf l = some ts → l = ts.map tupI
  | [], ts, e => by cases e; rfl
  | d :: r, ts, e => by
    unfold tupsOf at e
    cases e1 : intsT d with
    | none => rw [e1] at e; cases e
    | some t =>
      rw [e1] at e
      cases e2 : tupsOf r with
      | none => rw [e2] at e; cases e
      | some us =>
        rw [e2] at e
        cases e
        rw [intsT_eq e1, tupsOf_map e2]
        rfl
theorem toks_ints : ∀ xs ys : List Int, lexLt PyProof.Rows.itemOrd (PySem.W.keyToksAll (xs.map PyData.int)) (PySem.W.keyToksAll (ys.map PyData.int)) = ltL xs ys
  | [], [] => by rfl
  | [], y :: ys => by
    show lexLt PyProof.Rows.itemOrd [.inl 0] (.inl 1 :: _) = true
    rw [lex_diff (O := PyProof.Rows.itemOrd) (by intro z; cases z)]
    rfl
  | x :: xs, [] => by
    show lexLt PyProof.Rows.itemOrd (.inl 1 :: _) [.inl 0] = false
    rw [lex_diff (O := PyProof.Rows.itemOrd) (by intro z; cases z)]
    rfl
  | x :: xs, y :: ys => by
    have ih := toks_ints xs ys
    rw [List.map_cons, List.map_cons, PySem.W.keyToksAll, PySem.W.keyToksAll, lex_self]
    show lexLt PyProof.Rows.itemOrd (.inl x :: PySem.W.keyToksAll (xs.map PyData.int)) (.inl y :: PySem.W.keyToksAll (ys.map PyData.int)) = _
    unfold ltL
    by_cases h : x = y
    · subst h
      rw [if_pos rfl, lex_self, ih]
    · rw [if_neg h, lex_diff (O := PyProof.Rows.itemOrd) (fun z => h (by cases z; rfl))]
      rfl
theorem dataLt_tupI (x y : List Int) : PySem.W.dataLt (tupI x) (tupI y) = ltL x y := toks_ints x y
theorem alike_ints : ∀ xs ys : List Int, PySem.W.alikeAll (xs.map PyData.int) (ys.map PyData.int) = true
  | [], ys => by cases ys <;> rfl
  | x :: xs, [] => rfl
  | x :: xs, y :: ys => by
    rw [List.map_cons, List.map_cons, PySem.W.alikeAll, alike_ints xs ys]
    rfl
theorem alike_tupI (x y : List Int) : PySem.W.alike (tupI x) (tupI y) = true := alike_ints x y
theorem depth_ints : ∀ xs : List Int, PyData.depthAll (xs.map PyData.int) ≤ 1
  | [] => by decide
  | x :: xs => by
    have ih := depth_ints xs
    rw [List.map_cons]
    show max (PyData.int x).depth (PyData.depthAll (xs.map PyData.int)) ≤ 1
    have : (PyData.int x).depth ≤ 1 := by show (PyData.int 0).depth ≤ 1; decide
    omega
theorem depth_tupI (x : List Int) : (tupI x).depth ≤ 2 := by
  have := depth_ints x
  show PyData.depth (.tuple (x.map PyData.int)) ≤ 2
  rw [PyData.depth]
  omega
theorem depth_tIs : ∀ ts : List (List Int), PyData.depthAll (ts.map tupI) ≤ 2
  | [] => by decide
  | t :: ts => by
    have ih := depth_tIs ts
    have := depth_tupI t
    rw [List.map_cons]
    show max (tupI t).depth (PyData.depthAll (ts.map tupI)) ≤ 2
    omega
theorem minD_tupI : ∀ (t : List Int) (ts : List (List Int)), PySem.W.minD (tupI t) (ts.map tupI) = tupI (minT t ts)
  | t, [] => rfl
  | t, u :: ts => by
    have e : PySem.W.minD (tupI t) ((u :: ts).map tupI) = PySem.W.minD (if PySem.W.dataLt (tupI u) (tupI t) then tupI u else tupI t) (ts.map tupI) := rfl
    rw [e, dataLt_tupI]
    unfold minT
    cases ltL u t with
    | true => exact minD_tupI u ts
    | false => exact minD_tupI t ts
section
variable {X : Cx}
def rMinT (K : PySem.W.Frag) : List V → Hp → VK → Prop := fun vs H Q => ∃ (a : Addr) (ys : List V) (t : List Int) (ts : List (List Int)), vs = [V.ref a] ∧ SqL K H a ys ∧ DpAll K H ys ((t :: ts).map tupI) ∧
  ∀ (i : Nat) v, ys[i]? = some v → ((t :: ts).map tupI)[i]? = some (tupI (minT t ts)) → Q v H
theorem vals_at {ys : List V} {its : List Value} (h : Vals ys its) : ∀ {i : Nat} {u : Value}, its[i]? = some u → ∃ v, ys[i]? = some v ∧ RelV v u := by
  induction h with
  | nil => intro i u e; simp at e
  | cons r t ih =>
    intro i u e
    cases i with
    | zero => cases e; exact ⟨_, rfl, r⟩
    | succ i => exact ih (i := i) (by simpa using e)
theorem call_minT (hc : X.calm = true) (hu : X.A.units + 64 < cLine) : CallR X (.builtin "min") (rMinT X.K) := by
  intro pins s σ H vs us Q I r h
  obtain ⟨a, ys, t, ts, rfl, hs, hd, q⟩ := h
  obtain ⟨its, rv, hl, _⟩ := I.list hs
  rw [Vals.ref1 r]
  obtain ⟨as, h4⟩ := Dp.readsAll I _ ys its hd rv
  have ha : PySem.W.AlikeAll ((t :: ts).map tupI) := ⟨fun x hx y hy => by
    obtain ⟨x, _, rfl⟩ := List.mem_map.mp hx
    obtain ⟨y, _, rfl⟩ := List.mem_map.mp hy
    exact alike_tupI x y, fun x hx => by
    obtain ⟨x, _, rfl⟩ := List.mem_map.mp hx
    intro z
    cases z⟩
  have hdp := depth_tIs (t :: ts)
  refine PySem.W.min_list_data (x := tupI t) (xs := ts.map tupI) (I.ok.hd hc) hl.isList (show ReadsAll s.heap its.toArray.toList (tupI t :: ts.map tupI) as from h4) ha (by
    have : PyData.depthAll (tupI t :: ts.map tupI) ≤ 2 := hdp
    omega) fun i v h' tk bs hv hr hk => ?_
  have hv : its[i]? = some v := by simpa using hv
  obtain ⟨x, hx, rx⟩ := vals_at rv hv
  obtain ⟨cs, r1, hi, _, _⟩ := PySem.W.readsAll_at (show ReadsAll s.heap its (tupI t :: ts.map tupI) as from h4) i v hv
  have hi2 : i < (t :: ts).length := by simpa using hi
  have ed : (tupI t :: ts.map tupI).getD i .none = tupI ((t :: ts)[i]) := by
    rw [List.getD_eq_getElem?_getD, ← List.map_cons, List.getElem?_map, List.getElem?_eq_getElem hi2]
    rfl
  rw [minD_tupI] at hr
  rw [ed] at r1
  have eq := PySem.W.alike_unique _ _ v _ _ (alike_tupI _ _) (Reads.keeps hk r1) hr
  refine ⟨x, H, I.kept hk, rx, q i x hx ?_⟩
  rw [List.getElem?_map, List.getElem?_eq_getElem hi2, Option.map_some, eq]
def rGtT (K : PySem.W.Frag) : R2 := fun x y H Q => ∃ xs ys : List Int, Dp K H x (tupI xs) ∧ Dp K H y (tupI ys) ∧ Q (.bl (ltL ys xs)) H
theorem op_gtT (hu : X.A.units + 64 < cLine) : OpR X (compareOp .Gt) (rGtT X.K) := by
  intro pins s σ H x y v u Q I rx ry h
  obtain ⟨xs, ys, hx, hy, q⟩ := h
  obtain ⟨as, r1⟩ := Dp.reads I _ x v hx rx
  obtain ⟨bs, r2⟩ := Dp.reads I _ y u hy ry
  have d1 := depth_tupI xs
  have d2 := depth_tupI ys
  refine PySem.W.rcGt_alike (tupI xs) (tupI ys) X.A s v u as bs r1 r2 (alike_tupI _ _) (fun z => by cases z) (by omega) X.prog X.w _ _ ?_
  rw [dataLt_tupI]
  exact ⟨.bl _, H, I, rfl, q⟩
end
section
variable {C : Cv}
theorem bs_minT : BlS C bMinT (rMinT C.K) := by
  intro H α μ xs ds z Q S rs e q
  unfold bMinT at e
  split at e
  · rename_i l
    cases e1 : tupsOf l with
    | none => rw [e1] at e; cases e
    | some ts =>
      rw [e1] at e
      cases ts with
      | nil => cases e
      | cons a r =>
        cases e
        obtain ⟨x, rfl, r0⟩ := rs.one
        obtain ⟨p1, ys, rfl, h1, r1⟩ := r0.list
        have el := tupsOf_map e1
        subst el
        refine ⟨p1, ys, a, r, rfl, .inl h1, r1.dp, fun i v hv hd => ?_⟩
        obtain ⟨v', hv', rp⟩ := r1.get hd
        rw [hv] at hv'
        cases hv'
        exact q v H (.refl H) rp
  · cases e
theorem bs_minA : BlS C bMinA (fun xs H Q => rMin C.K xs H Q ∨ rMinT C.K xs H Q) := by
  intro H α μ xs ds z Q S rs e q
  unfold bMinA at e
  cases e1 : bMin1 ds with
  | some y =>
    rw [e1] at e
    cases e
    exact .inl (bs_min1 H α μ xs ds z Q S rs e1 q)
  | none =>
    rw [e1] at e
    exact .inr (bs_minT H α μ xs ds z Q S rs e q)
theorem bs_bool : BlS C bBool (fun xs H Q => (∃ i, xs = [.int i] ∧ Q (.bl (i != 0)) H) ∨ ∃ k, xs = [.bl k] ∧ Q (.bl k) H) := by
  intro H α μ xs ds z Q S rs e q
  unfold bBool at e
  split at e
  · cases e
    obtain ⟨x, rfl, r1⟩ := rs.one
    exact .inl ⟨_, by rw [r1.int], q _ H (.refl H) (.bl _)⟩
  · cases e
    obtain ⟨x, rfl, r1⟩ := rs.one
    exact .inr ⟨_, by rw [r1.bl], q _ H (.refl H) (.bl _)⟩
  · cases e
theorem os_gtT : OpS C dGtT (fun x y H Q => (rI0 fun i j => .bl (decide (j < i))) x y H Q ∨ rGtT C.K x y H Q) := by
  intro H α μ x y a b z Q S ra rb e q
  unfold dGtT at e
  split at e
  · cases e
    exact .inl ⟨_, _, ra.int, rb.int, q _ H (.refl H) (.bl _)⟩
  · rename_i l1 l2
    cases e1 : intsOf l1 with
    | none => rw [e1] at e; cases e
    | some xs =>
      rw [e1] at e
      cases e2 : intsOf l2 with
      | none => rw [e2] at e; cases e
      | some ys =>
        rw [e2] at e
        cases e
        have h1 := intsOf_map e1
        have h2 := intsOf_map e2
        subst h1 h2
        exact .inr ⟨xs, ys, ra.dp, rb.dp, q _ H (.refl H) (.bl _)⟩
  · cases e
end
end L3

set_option Elab.async false
set_option linter.all false
set_option maxRecDepth 100000
set_option maxHeartbeats 2000000
/-! From the head's facts to the layer's. -/
namespace L3
open PySem PySem.Spec PyProof.Rows L2 Mi He
section
variable {K : PySem.W.Frag} {mg : Str → Option Value} {h : Heap}
def excCB (K : PySem.W.Frag) (D : Addr) : Bool :=
  eqO (PySem.W.findIn K (.ref D) "__getattribute__") (some (some (.builtin "BaseException.__getattribute__"))) && (eqO (PySem.W.findIn K (.ref D) "__getattr__") (some none) && (decide (PySem.W.subIn K (.ref D) (.type "BaseException") = some true) &&
    (PySem.W.hasDictIn K D && (eqO (PySem.W.findIn K (.ref D) "__class__") (some (some (.builtin "object.__class__"))) && (eqO (PySem.W.specialIn K (.builtin "object.__class__") "__get__") (some (some (.builtin "getset_descriptor.__get__"))) &&
      (decide (PySem.W.takesIn K (.builtin "object.__class__") = some true) && decide (PySem.W.mroIn K D (.type "object") = some true)))))))
theorem excCB_ok {D : Addr} (h : excCB K D = true) : ExcC K D := by
  unfold excCB at h
  simp only [Bool.and_eq_true, decide_eq_true_eq] at h
  obtain ⟨h1, h2, h3, h4, h5, h6, h7, h8⟩ := h
  exact ⟨eqO_ok h1, eqO_ok h2, h3, h4, eqO_ok h5, eqO_ok h6, h7, h8⟩
/-- the row of the own class x -/
def rowB (K : PySem.W.Frag) (x : Str) : Bool := match ownCls.idxOf? x with
  | none => false
  | some i => excCB K (ga K x) && (decide (PySem.W.exmOne K (.ref (ga K x)) (.ref (ga K "WalkError")) = some true) && (decide (PySem.W.kitOne K (.ref (ga K x)) (.type "ValueError") = some (bOf i 16)) &&
      ((List.range 16).all fun j => decide (PySem.W.kitOne K (.ref (ga K x)) (.ref (ga K (ownCls.getD j ""))) = some (bOf i j)))))
theorem rowB_ok {x : Str} (h : rowB K x = true) (hx : mg x = some (.ref (ga K x))) (hW : mg "WalkError" = some (.ref (ga K "WalkError"))) (hg : ∀ y ∈ ownCls, mg y = some (.ref (ga K y))) : ClsRow K mg x := by
  unfold rowB at h
  split at h
  · cases h
  · rename_i i hi
    simp only [Bool.and_eq_true, decide_eq_true_eq, List.all_eq_true] at h
    obtain ⟨h1, h2, h3, h4⟩ := h
    refine ⟨i, ga K x, ga K "WalkError", hi, hx, hW, h2, excCB_ok h1, fun j y A hj hy => ?_, h3⟩
    have e := hg y (List.mem_of_getElem? hj)
    rw [hy] at e
    cases e
    have hlt : j < 16 := (List.getElem?_eq_some_iff.mp hj).1
    have z := h4 j (List.mem_range.mpr hlt)
    rw [show ownCls.getD j "" = y from by rw [List.getD_eq_getElem?_getD, hj]; rfl] at z
    exact z
theorem rpAll_strsV {H : Hp} {M : Addr → Prop} : ∀ ys : List Str, RpAll K H M ((ys.map Dv.str).map (Dv.v K)) (ys.map PyData.str)
  | [] => .nil
  | y :: ys => .cons (.str y) (rpAll_strsV ys)
theorem gtup_ok {x : Str} {ys : List Str} (h : tupB K x (ys.map Dv.str) = true) (hx : mg x = some (.ref (ga K x))) : GTup K mg x (ys.map PyData.str) :=
  ⟨ga K x, _, hx, fun H M => ⟨tupB_ok h H, rpAll_strsV ys⟩⟩
theorem ownEx_ok {x : Str} (c : (Fa.exc x).ok K = true) (hx : mg x = some (.ref (ga K x))) : OwnEx K mg x := by
  obtain ⟨h1, h2, h3, h4⟩ := exc_ok c
  exact ⟨ga K x, hx, h2, h1, h3, h4⟩
/-- no list stands among what is written -/
def noLists (K : PySem.W.Frag) : Bool := K.all fun p => !decide (p.2.cls = .type "list")
theorem noLists_rd (n : noLists K = true) {H : Hp} {a : Addr} {xs : List V} (h : SqL K H a xs) : Rd H a (.lst xs) := by
  rcases h with h | ⟨o, its, m, lk, hc, _⟩
  · exact h
  · have z := List.all_eq_true.mp n (a, o) (He.lookup_mem lk)
    simp [hc] at z
theorem rpAll_intsV {H : Hp} {M : Addr → Prop} (ns : List Int) : RpAll K H M (ns.map V.int) (ns.map PyData.int) := rpAll_ints ns
/-- what a law's statement asks, from the walk of its def and its plain law -/
theorem law_at {l : PySem.W.OpenLaw} {w : World} {fa : Addr} {n k : Nat} {st : Stmt} {g : GF} {fs : List Fa} {fn : List DefD} {ts : List Tab} {ex : PySem.W.Frag → Bool} {fd : FuncData} {kws : List (Str × V)} (X : K.In h) (G : h.Ns mainGlobals mg)
    (c : SaysX fs fn ts [("law", none)] ex w h K) (hm : mg "law" = some (.ref (ga K "law"))) (hfa : mg "law" = some (.ref fa)) (Fu : FunD K "law" "law" (defArgs st) (defBody st) (defScope st) [] kws (ga K "law") fd)
    (hbind : ∀ (kV doc pm : Value) (an : Option Addr) (cdv ct : Value) (us : List Value), us.length = ["script"].length → bindArgs (PySem.W.fnOf "law" "law" (defArgs st) (defBody st) (defScope st) .none kV doc pm an cdv ct) ⟨us, []⟩ = pure ((["script"] : List Str).zip us)) (hn : noLists K = true)
    (Fn : ∀ (base : Heap) (T : List (Addr × Str)), DefL K mg base T "law" st ["script"] fa fd → FnOk l.prog w K mg base (L2N.CX l.prog w) k fa fd ["script"] (spD ⟨K, mg, T⟩ g))
    (pure : ∀ ns : List Int, ns.length ≤ n → (∀ z ∈ ns, Builtin.Int.intBits z ≤ 1048576) → g [.d (.list (ns.map .int))] [] = .ok (.d (.bool true)) []) : LamX.LawAtS l w K (L2N.CX l.prog w) k n "script" mg fa h := by
  have e := hm.symm.trans hfa
  injection e with e
  injection e with e
  subst e
  have hb : Binds K fd ["script"] [] := Fu.bindsN hbind
  have hA := Fu.bindsA (ps := ["script"]) hbind
  obtain ⟨oc, od, dV, kV, doc, pm, an, cdv, ct, osl, rfl, lk, hcdi, _, _⟩ := Fu.ex
  obtain ⟨cc, rfl⟩ := codeIn_ref hcdi
  have hcc : codeOf K ("law", none) = cc := codeOf_eq (p := ("law", none)) lk rfl
  have mem : (("law", none) : Defn) ∈ ([("law", none)] : List Defn) := List.mem_singleton.mpr rfl
  refine ⟨_, [cT K ("law", none)], spD ⟨K, mg, [((cT K ("law", none)).2, qLam "law")]⟩ g, fun p hp => ?_, fun p hp => ?_, fun p hp => ?_, fun s u => hA s [u] rfl, fun H a ns hl hbits hT hS => ?_, fun base KB NB TB => ?_⟩
  · obtain rfl := List.mem_singleton.mp hp; exact c.empty _ mem
  · obtain rfl := List.mem_singleton.mp hp; exact c.out _ mem
  · obtain rfl := List.mem_singleton.mp hp; exact PySem.W.codeHd_of_K X (c.hd _ mem)
  · have no : ∀ b, ¬ Own ⟨[], []⟩ [] b := fun b z => by
      rcases z with ⟨k, c, h1, _⟩ | z
      · cases h1
      · cases z
    refine ⟨[.d (.list (ns.map .int))], ⟨[], []⟩, [], ⟨rfl, List.Pairwise.nil, (fun b hb => by cases hb), (fun k c e => by cases e), fun p hp => ?_⟩, .cons (.lst (noLists_rd hn hS) (no a) (rpAll_ints ns)) .nil, ?_⟩
    · obtain rfl := List.mem_singleton.mp hp
      exact LamX.TabS.nil (hT _ (List.mem_singleton.mpr rfl))
    · rw [pure ns hl hbits]
      intro v H' α' st S r
      cases r
      rfl
  · refine Fn base _ ⟨⟨_, _, Fu⟩, hm, hb, cc, (cT K ("law", none)).2, rfl, ?_, List.mem_singleton.mpr rfl, fun p hp _ => ?_⟩
    · have z := TB _ (List.mem_singleton.mpr rfl)
      rw [show (cT K ("law", none)).1 = cc from hcc] at z
      exact z
    · obtain rfl := List.mem_singleton.mp hp
      rfl
/-- the lambdas of the def x -/
def LamC (K : PySem.W.Frag) (mg : Str → Option Value) (base : Heap) (T : List (Addr × Str)) (x : Str) : Prop := ∃ P, LamX.TabB base mg (codeOf K (x, none)) P ∧ (P, qLam x) ∈ T ∧ ∀ p ∈ T, p.1 = P → p.2 = qLam x
theorem LamC.defL {base : Heap} {T : List (Addr × Str)} {x : Str} {st : Stmt} {ps : List Str} {fd : FuncData} {dvs : List V} {kws : List (Str × V)} (L : LamC K mg base T x) (hm : mg x = some (.ref (ga K x))) (Fu : FunD K x x (defArgs st) (defBody st) (defScope st) dvs kws (ga K x) fd) (hb : Binds K fd ps []) : DefL K mg base T x st ps (ga K x) fd := by
  obtain ⟨P, TB, hT, hu⟩ := L
  obtain ⟨oc, od, dV, kV, doc, pm, an, cdv, ct, osl, rfl, lk, hcdi, _, _⟩ := Fu.ex
  obtain ⟨cc, rfl⟩ := codeIn_ref hcdi
  have hcc : codeOf K (x, none) = cc := codeOf_eq (p := (x, none)) lk rfl
  exact ⟨⟨dvs, kws, Fu⟩, hm, hb, cc, P, rfl, by rw [← hcc]; exact TB, hT, hu⟩
def tabsOf (K : PySem.W.Frag) (ds : List Str) : List (Addr × Str) := ds.map fun x => ((cT K (x, none)).2, qLam x)
/-- the tables of the lambdas are apart -/
def apartB (K : PySem.W.Frag) (ds : List Str) : Bool := (tabsOf K ds).all fun p => (tabsOf K ds).all fun q => !(p.1 == q.1) || p.2 == q.2
theorem lamC_of {base : Heap} {ds : List Str} {x : Str} (hx : x ∈ ds) (ha : apartB K ds = true) (TB : LamX.TabB base mg (codeOf K (x, none)) (cT K (x, none)).2) : LamC K mg base (tabsOf K ds) x := by
  have hm : ((cT K (x, none)).2, qLam x) ∈ tabsOf K ds := List.mem_map.mpr ⟨x, hx, rfl⟩
  refine ⟨_, TB, hm, fun p hp e => ?_⟩
  have z := List.all_eq_true.mp (List.all_eq_true.mp ha p hp) _ hm
  rcases Bool.or_eq_true _ _ ▸ z with z | z
  · rw [e] at z
    simp at z
  · exact eq_of_beq z
/-- what a law's statement asks, from the walk of its def and its plain law; ds: the defs with lambdas -/
theorem law_atL {l : PySem.W.OpenLaw} {w : World} {fa : Addr} {n k : Nat} {st : Stmt} {g : GF} {fs : List Fa} {fn : List DefD} {ts : List Tab} {ds : List Str} {ex : PySem.W.Frag → Bool} {fd : FuncData} {kws : List (Str × V)} (X : K.In h) (G : h.Ns mainGlobals mg)
    (c : SaysX fs fn ts (ds.map fun x => (x, none)) ex w h K) (hm : mg "law" = some (.ref (ga K "law"))) (hfa : mg "law" = some (.ref fa)) (Fu : FunD K "law" "law" (defArgs st) (defBody st) (defScope st) [] kws (ga K "law") fd)
    (hbind : ∀ (kV doc pm : Value) (an : Option Addr) (cdv ct : Value) (us : List Value), us.length = ["script"].length → bindArgs (PySem.W.fnOf "law" "law" (defArgs st) (defBody st) (defScope st) .none kV doc pm an cdv ct) ⟨us, []⟩ = pure ((["script"] : List Str).zip us)) (hn : noLists K = true) (ha : apartB K ds = true)
    (Fn : ∀ (base : Heap), (∀ x ∈ ds, LamC K mg base (tabsOf K ds) x) → Binds K fd ["script"] [] → FnOk l.prog w K mg base (L2N.CX l.prog w) k fa fd ["script"] (spD ⟨K, mg, tabsOf K ds⟩ g))
    (pure : ∀ ns : List Int, ns.length ≤ n → (∀ z ∈ ns, Builtin.Int.intBits z ≤ 1048576) → g [.d (.list (ns.map .int))] [] = .ok (.d (.bool true)) []) : LamX.LawAtS l w K (L2N.CX l.prog w) k n "script" mg fa h := by
  have e := hm.symm.trans hfa
  injection e with e
  injection e with e
  subst e
  have hb : Binds K fd ["script"] [] := Fu.bindsN hbind
  have hA := Fu.bindsA (ps := ["script"]) hbind
  have mem : ∀ p ∈ ds.map (fun x => cT K (x, none)), ∃ x ∈ ds, cT K (x, none) = p ∧ ((x, none) : Defn) ∈ (ds.map fun x => ((x, none) : Defn)) := fun p hp => by
    obtain ⟨x, hx, e⟩ := List.mem_map.mp hp
    exact ⟨x, hx, e, List.mem_map.mpr ⟨x, hx, rfl⟩⟩
  refine ⟨_, ds.map (fun x => cT K (x, none)), spD ⟨K, mg, tabsOf K ds⟩ g, fun p hp => ?_, fun p hp => ?_, fun p hp => ?_, fun s u => hA s [u] rfl, fun H a ns hl hbits hT hS => ?_, fun base KB NB TB => ?_⟩
  · obtain ⟨x, hx, rfl, hm⟩ := mem p hp; exact c.empty _ hm
  · obtain ⟨x, hx, rfl, hm⟩ := mem p hp; exact c.out _ hm
  · obtain ⟨x, hx, rfl, hm⟩ := mem p hp; exact PySem.W.codeHd_of_K X (c.hd _ hm)
  · have no : ∀ b, ¬ Own ⟨[], []⟩ [] b := fun b z => by
      rcases z with ⟨k, c, h1, _⟩ | z
      · cases h1
      · cases z
    refine ⟨[.d (.list (ns.map .int))], ⟨[], []⟩, [], ⟨rfl, List.Pairwise.nil, (fun b hb => by cases hb), (fun k c e => by cases e), fun p hp => ?_⟩, .cons (.lst (noLists_rd hn hS) (no a) (rpAll_ints ns)) .nil, ?_⟩
    · obtain ⟨x, hx, rfl⟩ := List.mem_map.mp (show p ∈ tabsOf K ds from hp)
      exact LamX.TabS.nil (hT _ (List.mem_map.mpr ⟨x, hx, rfl⟩))
    · rw [pure ns hl hbits]
      intro v H' α' st S r
      cases r
      rfl
  · exact Fn base (fun x hx => lamC_of hx ha (TB _ (List.mem_map.mpr ⟨x, hx, rfl⟩))) hb
end
end L3

set_option Elab.async false
set_option linter.all false
set_option maxRecDepth 100000
set_option maxHeartbeats 2000000
/-! The head's facts of classes: objects, methods, properties and their getters. -/
namespace L3
open PySem PySem.Spec PyProof.Rows L2 Mi He
/-- where a property's getter stands -/
def gAd (K : PySem.W.Frag) (p : Str × Str) : Addr := match PySem.W.recIn K (ma K (ga K p.1) p.2) "property" with
  | some (.ref g :: _) => g
  | _ => 0
def fnP (K : PySem.W.Frag) (p : Str × Str) : FnW := match K.lookup (gAd K p) with
  | some ⟨_, _, .func fd, _⟩ => some (fd.name, fd.qualname, fd.params, fd.body, fd.scope, fd.globals, fd.closure, fd.builtins)
  | _ => none
structure PrD where
  cls : Str
  name : Str
  qual : Str
  params : Arguments
  body : List Stmt
  scope : Scope
def PrD.at_ (d : PrD) : Str × Str := (d.cls, d.name)
def PrD.val (d : PrD) : FnW := some (d.name, d.qual, d.params, .stmts d.body, d.scope, mainGlobals, [], builtinsNs)
def propB (K : PySem.W.Frag) (d : PrD) : Bool :=
  eqO (PySem.W.findIn K (.ref (ga K d.cls)) d.name) (some (some (.ref (ma K (ga K d.cls) d.name)))) &&
  (eqO (PySem.W.specialIn K (.ref (ma K (ga K d.cls) d.name)) "__get__") (some (some (.builtin "property.__get__"))) &&
  (decide (PySem.W.takesIn K (.ref (ma K (ga K d.cls) d.name)) = some true) &&
  ((match PySem.W.recIn K (ma K (ga K d.cls) d.name) "property" with | some (.ref _ :: _) => true | _ => false) &&
  (PySem.W.keepIn K (.ref (gAd K d.at_)) && (match K.lookup (gAd K d.at_) with
    | some ⟨_, _, .func fd, _⟩ => PySem.W.codeIn K fd.code d.qual && (dflB K fd.defaults [] && kwdB K fd.kwdefaults [])
    | _ => false)))))
section
variable {K : PySem.W.Frag}
theorem propB_ok {d : PrD} (c : propB K d = true) (e : fnP K d.at_ = d.val) : PropOf K (ga K d.cls) d.name (ma K (ga K d.cls) d.name) (gAd K d.at_) ∧ ∃ fd, FunD K d.name d.qual d.params d.body d.scope [] [] (gAd K d.at_) fd := by
  unfold propB at c
  obtain ⟨c1, c⟩ := ba c
  obtain ⟨c2, c⟩ := ba c
  obtain ⟨c3, c⟩ := ba c
  obtain ⟨c4, c⟩ := ba c
  obtain ⟨c5, c6⟩ := ba c
  refine ⟨⟨eqO_ok c1, eqO_ok c2, of_decide_eq_true c3, ?_⟩, ?_⟩
  · unfold gAd PrD.at_
    cases q : PySem.W.recIn K (ma K (ga K d.cls) d.name) "property" with
    | none => rw [q] at c4; cases c4
    | some vs =>
      rw [q] at c4
      cases vs with
      | nil => cases c4
      | cons v r =>
        cases v with
        | ref g => exact ⟨r, rfl⟩
        | _ => cases c4
  · unfold fnP at e
    cases q : K.lookup (gAd K d.at_) with
    | none => rw [q] at c6; cases c6
    | some o =>
      obtain ⟨oc, od, dt, osl⟩ := o
      rw [q] at c6 e
      cases dt with
      | func fd =>
        have c7 : (PySem.W.codeIn K fd.code d.qual && (dflB K fd.defaults [] && kwdB K fd.kwdefaults [])) = true := c6
        have e2 : (some (fd.name, fd.qualname, fd.params, fd.body, fd.scope, fd.globals, fd.closure, fd.builtins) : FnW) = some (d.name, d.qual, d.params, .stmts d.body, d.scope, mainGlobals, [], builtinsNs) := e
        obtain ⟨k1, k2⟩ := ba c7
        obtain ⟨k3, k4⟩ := ba k2
        cases fd with
        | mk a1 a2 a3 a4 a5 a6 a7 a8 a9 a10 a11 a12 a13 a14 a15 =>
          simp only [Option.some.injEq, Prod.mk.injEq] at e2
          obtain ⟨h1, h2, h3, h4, h5, h6, h7, h8⟩ := e2
          subst h1 h2 h3 h4 h5 h6 h7 h8
          exact ⟨_, ⟨oc, od, a8, a9, a10, a11, a12, a13, a14, osl, rfl, q, k1, dflB_ok k3, kwdB_ok k4⟩, c5⟩
      | _ => cases c6
theorem prop_fact {d : PrD} {ps : List Str} {st : Stmt} (c : propB K d = true) (e : fnP K d.at_ = d.val) (h1 : d.params = defArgs st) (h2 : d.body = defBody st) (h3 : d.scope = defScope st)
    (hb : ∀ fd, FunD K d.name d.qual d.params d.body d.scope [] [] (gAd K d.at_) fd → Binds K fd ps []) : PropFact K (ga K d.cls) d.name d.qual st ps := by
  obtain ⟨p, fd, F⟩ := propB_ok c e
  refine ⟨_, _, fd, [], [], ?_, p, hb fd F⟩
  rw [← h1, ← h2, ← h3]
  exact F
theorem own_cls {mg : Str → Option Value} {x : Str} (c : (Fa.cls x).ok K = true) (hx : mg x = some (.ref (ga K x))) : OwnC K mg x (ga K x) := by
  have c2 : (PySem.W.plainGet K (ga K x) Str.empty && (PySem.W.hasDictIn K (ga K x) && (PySem.W.plainOver K (ga K x) && eqO (PySem.W.findIn K (.ref (ga K x)) "__setattr__") (some (some (.builtin "object.__setattr__")))))) = true := c
  obtain ⟨h1, c3⟩ := ba c2
  obtain ⟨h2, c4⟩ := ba c3
  obtain ⟨h3, h4⟩ := ba c4
  exact ⟨hx, h1, h2, h3, eqO_ok h4⟩
theorem no_attr {x f : Str} (c : (Fa.noat x f).ok K = true) : NoAttr K (ga K x) f := eqO_ok c
theorem meth_fact {x m qual : Str} {st : Stmt} {ps : List Str} {dvs : List V} {kws : List (Str × V)} {fd : FuncData} (c : (Fa.meth x m).ok K = true) (F : FunD K m qual (defArgs st) (defBody st) (defScope st) dvs kws (ma K (ga K x) m) fd) (hb : Binds K fd ps []) : MethFact K (ga K x) m qual st ps := by
  have c2 : (eqO (PySem.W.findIn K (.ref (ga K x)) m) (some (some (.ref (ma K (ga K x) m)))) && (PySem.W.isFn K (.ref (ma K (ga K x) m)) && PySem.W.keepIn K (.ref (ma K (ga K x) m)))) = true := c
  obtain ⟨h1, c3⟩ := ba c2
  obtain ⟨h2, h3⟩ := ba c3
  exact ⟨_, fd, dvs, kws, F, ⟨eqO_ok h1, h2, h3⟩, hb⟩
theorem init_fact {x qual : Str} {st : Stmt} {ps : List Str} {dvs : List V} {kws : List (Str × V)} {fd : FuncData} (c : (Fa.mkr x).ok K = true) (F : FunD K "__init__" qual (defArgs st) (defBody st) (defScope st) dvs kws (ma K (ga K x) "__init__") fd) (hb : Binds K fd ps []) : InitFact K (ga K x) qual st ps := by
  have c2 : (PySem.W.makesIn K (ga K x) && (eqO (PySem.W.findIn K (.ref (ga K x)) "__init__") (some (some (.ref (ma K (ga K x) "__init__")))) && (PySem.W.isFn K (.ref (ma K (ga K x) "__init__")) && PySem.W.keepIn K (.ref (ga K x))))) = true := c
  obtain ⟨h1, c3⟩ := ba c2
  obtain ⟨h2, c4⟩ := ba c3
  obtain ⟨h3, h4⟩ := ba c4
  exact ⟨_, fd, dvs, kws, F, ⟨h1, eqO_ok h2, h3, h4⟩, hb⟩
end
/-! ### the hook with getters -/
structure SaysP (fa : List Fa) (fn : List DefD) (ts : List Tab) (tf : List Defn) (ex : PySem.W.Frag → Bool) (pr : List PrD) (w : World) (h : Heap) (K : PySem.W.Frag) : Prop where
  x : SaysX fa fn ts tf ex w h K
  p : (pr.map fun d => fnP K d.at_) = pr.map PrD.val
theorem SaysP.get {fa : List Fa} {fn : List DefD} {ts : List Tab} {tf : List Defn} {ex : PySem.W.Frag → Bool} {pr : List PrD} {w : World} {h : Heap} {K : PySem.W.Frag} (c : SaysP fa fn ts tf ex pr w h K) (i : Nat) {d : PrD} (e : pr[i]? = some d) : fnP K d.at_ = d.val := by
  have z := congrArg (fun l => l[i]?) c.p
  simp only [List.getElem?_map, e, Option.map_some, Option.some.injEq] at z
  exact z
def obsP (n : Nat) (fa : List Fa) (fn : List DefD) (ts : List Tab) (tf : List Defn) (ex : PySem.W.Frag → Bool) (pr : List PrD) (g : Addr → Option Obj) : AlX × List FnW := (obsX n fa fn ts tf ex g, pr.map fun d => fnP (frT g (asD g n)) d.at_)
def hookP (n : Nat) (fa : List Fa) (fn : List DefD) (ts : List Tab) (tf : List Defn) (ex : PySem.W.Frag → Bool) (pr : List PrD) : PySem.W.Hook where
  α := AlX × List FnW
  obs := fun s => obsP n fa fn ts tf ex pr s.heap.get?
  val := fun w => (valX fn ts w, pr.map PrD.val)
  says := fun w h => ∃ K : PySem.W.Frag, K.In h ∧ SaysP fa fn ts tf ex pr w h K
  of := fun w s e => ⟨_, frT_in, ⟨saysX_of (congrArg (fun z : AlX × List FnW => z.1) e), congrArg (fun z : AlX × List FnW => z.2) e⟩⟩
  keeps := fun _ _ _ ⟨K, hK, c⟩ k => ⟨K, PySem.W.Frag.In.keeps hK k, ⟨⟨c.x.t, c.x.more, c.x.hd, c.x.out, fun p hp => k _ _ (c.x.empty p hp)⟩, c.p⟩⟩
theorem obsP_eq {n : Nat} {fa : List Fa} {fn : List DefD} {ts : List Tab} {tf : List Defn} {ex : PySem.W.Frag → Bool} {pr : List PrD} {g : Addr → Option Obj} {s : Shared} (h : ∀ a, g a = s.heap.get? a) : obsP n fa fn ts tf ex pr g = (hookP n fa fn ts tf ex pr).obs s := by
  have e : g = s.heap.get? := funext h
  rw [e]
  rfl
end L3

set_option Elab.async false
set_option linter.all false
set_option maxRecDepth 100000
set_option maxHeartbeats 2000000
/-! An own exception whose __init__ says super().__init__("..") and stores one field. -/
namespace L3
open PySem PySem.Spec PyProof.Rows L2 Mi
/-- what the written part must say of the class at C, its __init__ at fI, the cell of __class__ at cc -/
structure TmF (prog : Program) (K : PySem.W.Frag) (C fI cda cc : Addr) (qual : Str) (params : Arguments) (body : List Stmt) (scope : Scope) : Prop where
  ox : OexC K C
  lk : ∃ oc od kV doc pm an ct osl, K.lookup fI = some ⟨oc, od, .func (PySem.W.ksFn "__init__" qual params body scope .none kV doc pm an (.ref cda) ct cc), osl⟩
  cd : PySem.W.codeIn K (.ref cda) qual = true
  code : ∃ ccl cdd vs ccs file tf, K.lookup cda = some ⟨ccl, cdd, .fields vs, ccs⟩ ∧ vs[2]? = some (.str file tf) ∧ ((prog.main.file : Str) == file) = true
  cell : ∃ cl cld csl, K.lookup cc = some ⟨cl, cld, .cell (some (.ref C)), csl⟩
  sub : PySem.W.mroIn K C (.ref C) = some true
  top : (prog.main.scope.names.lookup ("super" : Str)).isSome = false
  opq : PySem.W.nsIn K cStatics "thirdparty.any" = some none
  sup : PySem.W.ks_superIn K C C "__init__" = some (some (.builtin "ValueError.__init__"))
  subV : PySem.W.subIn K (.ref C) (.type "ValueError") = some true
  lim : PySem.W.findIn K (.ref C) "limit" = some none
/-- the text of such an __init__ -/
def tmCall (msg : Str) (j : Nat) (p0 p1 p2 p3 p4 : Pos) : Expr := .Call (.Attribute (.Call (.Name "super" p0) [] [] p1) "__init__" p2) [.Constant (.str msg) j p3] [] p4
def tmText (msg : Str) (scope : Scope) (body : List Stmt) : Prop := ∃ (j : Nat) (p0 p1 p2 p3 p4 p5 p6 p7 p8 p9 : Pos), body = [.Expr (tmCall msg j p0 p1 p2 p3 p4) p5, .Assign [.Attribute (.Name "self" p6) "limit" p7] (.Name "limit" p8) p9] ∧
  ∀ env : PySem.Env, env.scope = scope → (∃ pl : Sem Bool, eval (tmCall msg j p0 p1 p2 p3 p4) env = (do
      let ov ← attributeBase (.Call (.Name "super" p0) [] [] p1) "__init__" env (eval (.Call (.Name "super" p0) [] [] p1) env)
      standAt p2.atName
      let (f, first) ← holding [ov] (getMethod ov "__init__" pl)
      callWith p4 f first (backTo p4 (starEach [.Constant (.str msg) j p3] env)) [])) ∧ interactive env = false ∧ swapsWith (tmCall msg j p0 p1 p2 p3 p4) none p5.line env = pure false ∧
      swapsWith (.Name "limit" p8) (some (.Attribute (.Name "self" p6) "limit" p7)) p9.line env = pure false
structure TmS (params : Arguments) (scope : Scope) : Prop where
  kind : scope.kind = .function
  co : scope.isCoroutine = false
  gen : scope.isGenerator = false
  nc : ∀ x ∈ scope.names, x.2 ≠ .cell
  sup : scope.names.lookup ("super" : Str) = some .globalImplicit
  cls : scope.names.lookup ("__class__" : Str) = some .free
  self : scope.names.lookup ("self" : Str) = some .local
  lim : scope.names.lookup ("limit" : Str) = some .local
  hd : ∃ ar, (params.posonlyargs ++ params.args).head? = some ar ∧ ar.arg = "self"
/-- what it does -/
def spTM (C : Addr) : Sp := fun vs H Q _ => ∃ a v, vs = [.ref a, v] ∧ H a = some (exo a C none) ∧ ∀ d, H d = none → d ≠ a → Q .non (upd (upd H d (exd d [("limit", v)])) a (exo a C (some d)))
section
variable {P : Program} {w : World} {K : PySem.W.Frag} {mg : Str → Option Value} {base : Heap} {CX : CXT} {k : Nat} {C fI cda cc : Addr} {qual msg : Str} {params : Arguments} {body : List Stmt} {scope : Scope} {fd : FuncData}
open PySem.W in
theorem tm_ok (T : TmF P K C fI cda cc qual params body scope) (hsup : mg "super" = none) (hB : tmText msg scope body) (S : TmS params scope)
    (hfd : ∃ oc od osl, K.lookup fI = some ⟨oc, od, .func fd, osl⟩) :
    FnOk P w K mg base CX (k + 1) fI fd ["self", "limit"] (spTM C) := by
  refine ⟨fun vs H Q E h => ?_, fun A outer s H args us vs Q E hr e0 hb r hsp => ?_⟩
  · obtain ⟨a, v, rfl, _⟩ := h
    rfl
  obtain ⟨a, v, rfl, ea, hq⟩ := hsp
  obtain ⟨oc, od, kV, doc, pm, an, ct, osl, lk⟩ := T.lk
  obtain ⟨oc', od', osl', lk'⟩ := hfd
  rw [lk] at lk'
  simp only [Option.some.injEq, Obj.mk.injEq, Data.func.injEq] at lk'
  obtain ⟨_, _, e3, _⟩ := lk'
  subst e3
  cases r with
  | cons ra r =>
  rename_i ua us1
  cases r with
  | cons rv r =>
  rename_i u us2
  cases r
  obtain rfl : ua = Value.ref a := ra
  have bk : ∀ b o, base.get? b = some o → s.heap.get? b = some o := fun b o e => (e0.bs b o e).1
  have KX : K.In s.heap := e0.mod.kin.keeps bk
  have lim : s.heap.NoLimit := e0.mod.nolimit.keeps bk
  obtain ⟨t0, hx0⟩ := exo_at e0.hok ea
  refine ks_codeAny_call_defAt (body := body) (binds := [("self", .ref a), ("limit", u)]) hr.depth (KX _ _ lk) rfl lim (codeRec_of KX T.cd) rfl hb S.nc ?_ (fun h₁ hns hk₁ => ?_) S.co S.gen S.kind
  · intro y hy
    simp only [List.mem_cons, List.not_mem_nil, or_false] at hy
    rcases hy with rfl | rfl
    · exact S.self
    · exact S.lim
  have X1 : K.In h₁ := KX.keeps hk₁
  obtain ⟨j, p0, p1, p2, p3, p4, p5, p6, p7, p8, p9, rfl, hB⟩ := hB
  obtain ⟨⟨pl, hev⟩, hi, hs1, hs2⟩ := hB (callEnv (ksFn "__init__" qual params _ scope .none kV doc pm an (.ref cda) ct cc) s.heap.objs.size fI) rfl
  obtain ⟨ccl, cdd, vs, ccs, file, tf, hcode, hvs, hfile⟩ := T.code
  obtain ⟨cl, cld, csl, hcell⟩ := T.cell
  obtain ⟨ar, hp, har⟩ := S.hd
  obtain ⟨nm, q, N, bs, bm, sn, sub, ab, col, dd, k0, k1, k2, k3, k5, hC, hbm⟩ := T.ox.cls
  have hcl : clsIn K C = some { name := nm, bases := bs, mro := .ref C :: bm, ns := N, qualname := q, hasDict := true, slotNames := sn, subclasses := sub, abstract := ab, collection := col, hasDel := false } := by unfold clsIn; rw [hC] <;> rfl
  obtain ⟨mb, hmb, hbo⟩ := e0.mod.blt
  have G1 : ∀ {h2 : Heap}, (∀ b o, s.heap.get? b = some o → h2.get? b = some o) → h2.Ns mainGlobals mg := fun k2 => e0.mod.glob.keeps fun b o e => k2 b o (bk b o e)
  have B1 : ∀ {h2 : Heap}, (∀ b o, s.heap.get? b = some o → h2.get? b = some o) → h2.Ns builtinsNs mb := fun k2 => hmb.keeps fun b o e => k2 b o (bk b o e)
  refine ks_wpAt_execs_cons (ks_wpAt_Expr_any (ks_wpAt_MethodCall (pl := pl) ?_ hev) hi hs1)
  refine ks_wpAt_super_base S.sup S.cls (by decide) rfl (X1 _ _ lk) rfl hp rfl (X1 _ _ hcode) rfl hvs hfile T.top ?_
  refine ks_loadName_global S.kind S.sup (Calls.loadGlobal_builtin (G1 hk₁) hsup (B1 hk₁) ((hbo "super" (by decide)).trans (by first | rfl | kernel_rfl)) ⟨rfl, ?_⟩)
  refine wpAny_loadName_free S.kind S.cls rfl ⟨_, X1 _ _ hcell, rfl⟩ ?_
  rw [har]
  refine wpAny_loadName_local S.kind S.self hns (v := .ref a) rfl ?_
  have hx1 := hk₁ _ _ hx0
  have hC1 := X1 _ _ hC
  refine ks_wpAny_isType_cls hC1 rfl ⟨rfl, ?_⟩
  refine ks_wpAny_call_super hC1 rfl hx1 rfl (fun c e => nomatch e) (looks_mroIn X1 T.sub) (fun h2 hso k2 => ?_)
  have k02 : ∀ b o, s.heap.get? b = some o → h2.get? b = some o := fun b o e => k2 b o (hk₁ b o e)
  have X2 : K.In h2 := KX.keeps k02
  have hx2 := k2 _ _ hx1
  have I2 : InstAt h2 a { cls := .ref C, dict := none, data := .fields #[.ref t0, .none, .none, .none, .bool false, .none] } C none := ⟨hx2, rfl, rfl, trivial⟩
  have sup' : alongIn K "__init__" (((Value.ref C :: bm).dropWhile (· != .ref C)).drop 1) = some (some (.builtin "ValueError.__init__")) := by
    have z := T.sup
    unfold ks_superIn at z
    rw [hcl] at z
    exact z
  refine kxs_getMethod kxs_ValueError (x := a) (C := C) hso (looks_opaque X2 T.opq) (l₀ := .ref C :: bm) (fun A Q E s k q => wpAny_bind ((looks_clsIn X2 hcl) A _ E s k (wpAny_pure q))) rfl X2 sup' (I2.type.andThen (looks_subIn X2 T.subV)) (ks_ne X2 I2 hcl) (by decide) ?_
  have k3 : ∀ b o, h2.get? b = some o → (h2.push (kxs_mw "ValueError.__init__" a)).get? b = some o := fun b o e => Heap.get?_push_of_some _ e
  have hu3 : (h2.push (kxs_mw "ValueError.__init__" a)).get? h2.objs.size = some (kxs_mw "ValueError.__init__" a) := Heap.get?_push_at rfl rfl
  refine kxs_callWith (i := "ValueError.__init__") (x := a) rfl (Calls.evalArgs_plain ?_)
  refine Calls.spliced_cons (Calls.Constant_str (k := j) (pos := p3) ?_)
  refine Calls.spliced_nil ⟨hu3, ?_⟩
  have hx3 := k3 _ _ hx2
  have hC3 := k3 _ _ (X2 _ _ hC)
  refine wpAny_call (codeAny_of_tree ?_)
  show wpAny _ (Around.in1 _) (callAny (.ref _) ⟨_, []⟩) _ _ _
  simp only [callAny]
  refine wpAny_bind (wpAny_load hu3 ?_)
  simp only [kxs_mw, show (Value.type "method-wrapper" == Value.type "method" || Value.type "method-wrapper" == Value.type "builtin_function_or_method" || Value.type "method-wrapper" == Value.type "method-wrapper") = true by decide, if_true]
  refine KFB.if_so (by decide) ?_
  refine wpAny_bind (check_bound_init F.excBase_ValueError.toExcCallFacts hC3 hx3 rfl ?_)
  refine wpAny_bind (wpAny_pure (wpAny_pure ?_))
  refine ⟨plainId_quiet F.excBase_ValueError.init.plain _, codeAny_builtin F.excBase_ValueError.initEntry ?_⟩
  refine exc_init_tree (cls := .ref C) (t0 := t0) (dv := none) (c2 := .none) (c3 := .none) (b4 := .bool false) hx3 (by show 1 ≤ sizeLine; rw [sizeLine_eq]; omega) (fun h4 k4 hx4 _ => ?_)
  have hsz : s.heap.objs.size < h4.objs.size ∧ ∀ {b : Addr} {o : Obj}, b ≠ a → s.heap.get? b = some o → h4.get? b = some o := by
    have up : ∀ (b : Addr) (o : Obj), h₁.get? b = some o → b ≠ a → h4.get? b = some o := fun b o e ne => k4 b o ne (k3 b o (k2 b o e))
    refine ⟨?_, fun {b o} ne e => up b o (hk₁ b o e) ne⟩
    obtain ⟨oL, es, ep, hL, _⟩ := hns
    exact Heap.lt_size (up _ _ hL (fun z => by rw [← z] at hx0; exact absurd (Heap.lt_size hx0) (Nat.lt_irrefl _)))
  obtain ⟨hsz, k04⟩ := hsz
  have na : ∀ {b : Addr}, H b = none → b ≠ a := fun {b} n z => by
    rw [z, ea] at n
    cases n
  have X4 : K.In h4 := e0.mod.kin.keeps fun b o e => k04 (na (e0.bs b o e).2) (bk b o e)
  have hn4 : h4.Ns s.heap.objs.size (fun x => List.lookup x [(("self" : Str), Value.ref a), ("limit", u)].reverse) := by
    obtain ⟨oL, es, ep, hL, r⟩ := hns
    exact ⟨oL, es, ep, k4 _ _ (fun z => by rw [← z] at hx0; exact absurd (Heap.lt_size hx0) (Nat.lt_irrefl _)) (k3 _ _ (k2 _ _ hL)), r⟩
  dsimp only
  refine wpAt_of_wpAny (wpAny_execs_cons (plainObj_wpAny_Assign_Attribute ?_ hs2))
  refine wpAny_Name (wpAny_loadName_local S.kind S.lim hn4 (v := u) rfl ?_) (by decide)
  refine wpAny_Name (wpAny_loadName_local S.kind S.self hn4 (v := .ref a) rfl ?_) (by decide)
  refine set_plain X4 (ox := { cls := .ref C, dict := none, data := .fields #[.ref _, .none, .none, .none, .bool false, .none] }) (od := none) ⟨hx4, rfl, rfl, trivial⟩ T.ox.sa ?_
  refine PySem.HandSPX.exc_osa X4 hx4 hcl (show PySem.HandSPX.refsVE (.ref C :: bm) = true from hbm) rfl T.lim (fun h' tk' dx k dn dne hx hn => ?_)
  have hnd : H dx = none := e0.hok.fresh (Nat.le_trans (Nat.le_of_lt hsz) dn)
  have nd : ∀ {b : Addr} {o : Obj}, s.heap.get? b = some o → b ≠ dx := fun {b o} q => Nat.ne_of_lt (Nat.lt_of_lt_of_le (Heap.lt_size q) (Nat.le_trans (Nat.le_of_lt hsz) dn))
  have kk : ∀ b o, b ≠ a → s.heap.get? b = some o → h'.get? b = some o := fun b o ne e => k b o ne (k04 ne e)
  refine wpAny_execs_nil ?_
  refine ⟨.non, upd (upd H dx (exd dx [("limit", v)])) a (exo a C (some dx)), rfl, e0.bare, ?_, fun b o q => ?_, rfl, hq dx hnd dne⟩
  · exact {
      keep := fun b o q n _ _ => kk b o (na n) q
      slot := fun b o q n _ _ => ⟨o.slots, kk b o (na n) q⟩
      free := fun b o q n _ => by rw [upd_ne (na n), upd_ne (nd q)]; exact n
      there := fun b o q _ => by
        by_cases hb : b = a
        · exact ⟨_, by rw [hb]; exact hx⟩
        · exact ⟨o, kk b o hb q⟩
      tups := fun b xs q => by rw [upd_ne (at_ne ea q exo_tup), upd_ne (ne_of_none q hnd)]; exact q
      frzs := fun b o v q => by rw [upd_ne (at_ne ea q exo_frz), upd_ne (ne_of_none q hnd)]; exact q
      tbls := fun b ps q => ⟨#[], by rw [upd_ne (at_ne ea q exo_tbl), upd_ne (ne_of_none q hnd), q]; simp⟩ }
  · by_cases hb : b = a
    · subst hb
      rw [upd_same] at q
      cases q
      exact exo_ok hx
    · rw [upd_ne hb] at q
      by_cases hd : b = dx
      · subst hd
        rw [upd_same] at q
        cases q
        exact exd_ok hn (relO_put (fs := []) rv fun g => True.intro)
      · rw [upd_ne hd] at q
        exact (e0.hok b o q).stay (fun c v hc z => kk c v (by
            rcases hc with hc | hc
            · rw [hc]
              exact hb
            · exact at_ne ea hc exo_own) z)
          (fun c hc => by rw [upd_ne (at_ne ea hc exo_own), upd_ne (ne_of_none hc hnd)]; exact hc) (fun c xs hc => by rw [upd_ne (at_ne ea hc exo_tup), upd_ne (ne_of_none hc hnd)]; exact hc)
end
end L3

set_option Elab.async false
set_option linter.all false
set_option maxRecDepth 100000
set_option maxHeartbeats 2000000
/-! Exceptions as values: made, kept in lists, asked for their classes, their text, their field. -/
namespace Mi
open PySem
def asEs : List W → Option (List (Str × Xy))
  | [] => some []
  | .e c y :: r => (asEs r).map ((c, y) :: ·)
  | _ :: _ => none
def eExc (c m : Str) : EF := fun _ μ => .ok (.e c (.msg m)) μ
def eNewX (c : Str) (f : EF) : EF := fun ρ μ => (f ρ μ).bind fun w μ1 => match w with
  | .d d => .ok (.e c (.lim d)) μ1
  | _ => .no
def eLstE (a : AF) : EF := fun ρ μ => (a ρ μ).bind fun ws μ1 => match asEs ws with
  | some l => .ok (.es l) μ1
  | none => .no
def eCatE (f g : EF) : EF := fun ρ μ => (f ρ μ).bind fun a μ1 => (g ρ μ1).bind fun b μ2 => match a, b with
  | .es x, .es y => if x.length + y.length ≤ LIM then .ok (.es (x ++ y)) μ2 else .no
  | _, _ => .no
def eLenE (f : EF) : EF := fun ρ μ => (f ρ μ).bind fun a μ1 => match a with
  | .es x => .ok (.d (.int x.length)) μ1
  | _ => .no
def eIxE (f g : EF) : EF := fun ρ μ => (f ρ μ).bind fun a μ1 => (g ρ μ1).bind fun b μ2 => match a, b with
  | .es x, .d (.int i) => (match (ixI x.length i).bind fun k => x[k]? with
    | some (c, y) => .ok (.e c y) μ2
    | none => .no)
  | _, _ => .no
/-- isinstance; t: what it answers by the name of the class -/
def eIsV (t : Str → Option Bool) (f : EF) : EF := fun ρ μ => (f ρ μ).bind fun a μ1 => match a with
  | .e c _ => ofO ((t c).map fun b => W.d (.bool b)) μ1
  | _ => .no
def eLim (x : Str) (f : EF) : EF := fun ρ μ => (f ρ μ).bind fun a μ1 => match a with
  | .e c (.lim d) => if c = x then .ok (.d d) μ1 else .no
  | _ => .no
/-- str(e) -/
def eStrX (f : EF) : EF := fun ρ μ => (f ρ μ).bind fun a μ1 => match a with
  | .e c (.msg m) => if ownCls.contains c = true then .ok (.d (.str m)) μ1 else .no
  | _ => .no
/-- [g for x in f], f a list of exceptions -/
def eLcE (vs : List Nat) (i : Nat) (f g : EF) : EF := fun ρ μ => (f ρ μ).bind fun a μ1 => match a with
  | .es x => if x.length ≤ LIM then lcW i g (wipeE ρ vs) (x.map fun p => W.e p.1 p.2) [] μ1 else .no
  | _ => .no
def isTab (j : Nat) (c : Str) : Option Bool := if c = "WalkError" then some (j == 16) else (ownCls.idxOf? c).map fun i => bOf i j
def isTabW (c : Str) : Option Bool := if c = "WalkError" ∨ ownCls.contains c = true then some true else none
end Mi
namespace L2
open PySem PySem.Spec PyProof.Rows
section
variable {X : Cx} {pins : List (Addr × Obj)} {σ : St} {H : Hp} {s : Shared}
theorem exM_ok {P : Program} {w : World} {H : Hp} {h : Heap} {a t : Addr} {cls : Value} {oe : Obj} {vs : Array Value} (e : h.get? a = some oe) (z : Zc cls none oe) (d : oe.data = .fields vs) (h0 : vs[0]? = some (.ref t)) : ObjOk P w H h a (L3.ExM cls a t) :=
  ⟨⟨oe, vs, e, z, d, h0⟩, ⟨oe, e⟩, fun _ _ ⟨o, v, q, r⟩ k => ⟨o, v, k o q, r⟩⟩
/-- X(m), an own exception class without own __init__, as a value, its message kept -/
theorem pe_exc1v {C : Addr} {bmB : List Value} {B newId initId : String} {x m : Str} {j : Nat} {p p2 pos : Pos} (F : ExcBaseFacts B newId initId bmB) (q : PySem.W.excIn X.K C bmB newId = true) (gC : X.mg x = some (.ref C)) (kC : PySem.W.keepIn X.K (.ref C) = true) (hg : Gl X x) (hdb : (x == ("__debug__" : Str)) = false := by decide) :
    PE X (.Call (.Name x p) [.Constant (.str m) j p2] [] pos) (fun σ H Q => ∀ a t, H a = none → H t = none → t ≠ a → Q (.ref a) (upd (upd H t (.tup [.str m])) a (L3.ExM (.ref C) a t))) := by
  refine ⟨fun pins s σ H Q I h => ?_⟩
  refine wpAny_Call_Name_kw (ld_glob I hg gC ?_ hdb)
  refine PySem.W.callWith_K (h₀ := X.base) I.ok.mod.kin kC ?_ rfl (by rfl)
  show wpAny _ _ (spliced ((false, eval (.Constant (.str m) j p2) X.env) :: backTo pos (starEach [] X.env))) _ _ s
  refine Calls.spliced_cons (Calls.Constant_str ?_)
  have I1 := I.tok (s.toks + 1)
  refine Calls.spliced_nil ⟨I1.kIn, ?_⟩
  show wpAny _ _ (call (.ref C) [_]) _ _ _
  obtain ⟨bm, N, nm, qn, bs, hdct, sn, sub, ab, col, dd, k0, k1, k2, k3, k5, mN, hC, hN, hni, T⟩ := exc_obj I1.kIn q
  refine wpAny_call_exc_subT F T hC hN hni (fun h' a hm => ?_) (by show 1 ≤ sizeLine; rw [sizeLine_eq]; omega)
  have hn : H a = none := I.hok.gone hm.new
  obtain ⟨t, ha, hnt, ht⟩ := hm.there
  have hn2 : H t = none := I.hok.gone hnt
  have ne : t ≠ a := fun e => by
    rw [e, ha] at ht
    cases ht
  obtain ⟨G, g1, g2⟩ := restrict h' fun b => decide (b ≠ a)
  have gk : ∀ b, b ≠ a → G.get? b = h'.get? b := fun b hb => g1 b (decide_eq_true hb)
  have ga : G.get? a = none := g2 a (by simp)
  have na : ∀ {b : Addr} {o : Obj}, s.heap.get? b = some o → b ≠ a := fun {b o} e z => by rw [z, hm.new] at e; cases e
  have okt : ∀ {H2 : Hp} {h2 : Heap}, h2.get? t = some { cls := .type "tuple", data := .seq #[Value.str m s.toks] } → ObjOk X.prog X.w H2 h2 t (.tup [.str m]) := fun {H2 h2} e =>
    ⟨by show 1 ≤ sizeLine; rw [sizeLine_eq]; omega, [Value.str m s.toks], .cons ⟨_, rfl⟩ .nil, _, e, rfl, _, rfl⟩
  have I2 : Inv X pins σ (upd H t (.tup [.str m])) { s with heap := G, toks := s.toks + 1 } :=
    I1.laidN (fun b o e => by rw [gk b (na e)]; exact hm.keeps b o e) hnt hn2 (okt (by rw [gk t ne]; exact ht))
  have I3 : Inv X pins σ (upd (upd H t (.tup [.str m])) a (L3.ExM (.ref C) a t)) { s with heap := h', toks := s.toks + 1 } :=
    I2.laidN (t' := s.toks + 1) (h' := h') (fun b o e => by
      have hb : b ≠ a := fun z => by
        have e' : G.get? b = some o := e
        rw [z, ga] at e'
        cases e'
      have e' : G.get? b = some o := e
      rw [gk b hb] at e'
      exact e') ga (by rw [upd_ne ne.symm]; exact hn) (exM_ok ha ⟨rfl, rfl⟩ rfl rfl)
  exact ⟨.ref a, _, I3, rfl, h a t hn hn2 ne⟩
/-- C(e, ..), an own exception class whose own __init__ keeps sp, as a value -/
theorem pe_oexV {CX : CXT} {x : Str} {C fI : Addr} {k : Nat} {fd : FuncData} {ps : List Str} {sp : Sp} {ds : List Value} {dvs : List V} {e : Expr} {es : List Expr} {ta : TA} {p pos : Pos} (T : OexC X.K C) (iC : PySem.W.findIn X.K (.ref C) "__init__" = some (some (.ref fI))) (tI : PySem.W.typeIn X.K (.ref fI) = some (.type "function"))
    (F1 : FnOk X.prog X.w X.K X.mg X.base CX k fI fd ps sp) (hr : Room (k + 1) X.A) (hb : Binds X.K fd ps ds) (hd : Vals dvs ds) (hx : Passes CX X (fun _ _ _ => False)) (hg : Gl X x) (hm : X.mg x = some (.ref C)) (ha : PA X (e :: es) ta)
    (hdb : (x == ("__debug__" : Str)) = false := by decide) (he : starEach (e :: es) X.env = (false, eval e X.env) :: starEach es X.env := by rfl) (hpl : (backTo pos (starEach es X.env)).any (·.1) = false := by rfl) :
    PE X (.Call (.Name x p) (e :: es) [] pos) (fun σ H Q => ta σ H fun vs H1 => vs.length ≤ 1000 ∧ ∀ a, H1 a = none → sp (.ref a :: (vs ++ dvs)) (upd H1 a (exo a C none)) (fun v H2 => v = .non ∧ Q (.ref a) H2) (fun _ _ _ => False)) := by
  refine ⟨fun pins s σ H Q I h => ?_⟩
  obtain ⟨nm, q, N, bs, bm, sn, sub, ab, col, dd, k0, k1, k2, k3, k5, hC, hbm⟩ := T.cls
  refine wpAny_Call_Name_kw (ld_glob I hg hm ?_ hdb)
  refine PySem.W.callWith_K (h₀ := X.base) I.ok.mod.kin T.kC (thn (ha.run pos pins s σ H _ I h) fun us s1 ⟨vs, H1, I1, r1, hz, q1⟩ => ⟨I1.kIn, ?_⟩) he hpl
  show wpAny _ _ (call (.ref C) us) _ _ _
  obtain ⟨hp, g, dr, tk, os⟩ := s1
  have hsz : hp.objs.size ≤ hp.objs.size + 1 := Nat.le_succ _
  have hn : H1 (hp.objs.size + 1) = none := I1.hok.fresh hsz
  have hq := q1 (hp.objs.size + 1) hn
  have kk : ∀ b o, hp.get? b = some o → ((hp.push (PySem.W.kdv_tup us)).push (PySem.HandSPX.excO C hp.objs.size)).get? b = some o := fun b o e => Heap.get?_push_of_some _ (Heap.get?_push_of_some _ e)
  have hget : ((hp.push (PySem.W.kdv_tup us)).push (PySem.HandSPX.excO C hp.objs.size)).get? (hp.objs.size + 1) = some (PySem.HandSPX.excO C hp.objs.size) := by heap_get
  have I2 : Inv X pins σ (upd H1 (hp.objs.size + 1) (exo (hp.objs.size + 1) C none)) ⟨(hp.push (PySem.W.kdv_tup us)).push (PySem.HandSPX.excO C hp.objs.size), g, dr, tk, os⟩ :=
    I1.laid (t' := tk) (a := hp.objs.size + 1) (o := exo (hp.objs.size + 1) C none) (h' := (hp.push (PySem.W.kdv_tup us)).push (PySem.HandSPX.excO C hp.objs.size)) kk hsz (exo_ok hget)
  have r2 : Vals (V.ref (hp.objs.size + 1) :: (vs ++ dvs)) (Value.ref (hp.objs.size + 1) :: (us ++ ds)) := .cons rfl (r1.append hd)
  have hl : (Value.ref (hp.objs.size + 1) :: us ++ ds).length = ps.length := by
    have e := r2.length
    rw [F1.len _ _ _ _ hq] at e
    exact e.symm
  have hus : us.length ≤ sizeLine := by
    rw [← Paired.length r1, sizeLine_eq]
    omega
  refine wpAny_call (PySem.HandSPX.call_own F.excBase_ValueError (fun Y => PySem.HandSPX.refsVE_contains Y bm hbm) (I1.kIn _ _ hC) (PySem.W.looks_findIn I1.kIn iC) (fun self => PySem.W.bind_fn I1.kIn self tI) hus
    (codeAny_mono (F1.run _ X.stack _ _ ⟨Value.ref (hp.objs.size + 1) :: us, []⟩ (Value.ref (hp.objs.size + 1) :: (us ++ ds)) _ _ (fun _ _ _ => False) (hr.make C us []) (I2.env0.make C us []) (hb _ (Value.ref (hp.objs.size + 1) :: us) I2.kIn hl) r2 hq) fun r s' hq' => ?_))
  cases r with
  | error er => exact hx pins σ _ _ er s' I2 hq'
  | ok fl =>
    cases fl with
    | ret u =>
      obtain ⟨v, H2, os2, bare2, un2, hok2, rv, ev, q2⟩ := hq'
      subst ev
      exact ⟨rv, .ref (hp.objs.size + 1), H2, I2.call' (ch := []) os2 un2 hok2 bare2 (fun b z => absurd z (by simp)), rfl, q2⟩
    | next => exact False.elim hq'
    | brk => exact False.elim hq'
    | cont => exact False.elim hq'
/-- an exception object that nobody raised, at a, of the class at D -/
def IsX (H : Hp) (a D : Addr) : Prop := (∃ t, H a = some (L3.ExM (.ref D) a t)) ∨ ∃ dx fs, H a = some (exo a D (some dx)) ∧ H dx = some (exd dx fs)
theorem isX_at {P : Program} {w : World} {H : Hp} {h : Heap} {a D : Addr} (hok : HOk P w H h) (x : IsX H a D) : ∃ ox od, PySem.W.InstAt h a ox D od := by
  rcases x with ⟨t, e⟩ | ⟨dx, fs, e, e2⟩
  · have z : ObjOk P w H h a (L3.ExM (.ref D) a t) := hok a _ e
    obtain ⟨⟨oe, vs, h1, h2, h3, h4⟩, _⟩ := z
    obtain ⟨oc, od, oda, osl⟩ := oe
    obtain ⟨h5, h6⟩ := h2
    dsimp only at h3 h5 h6
    subst h3 h5 h6
    exact ⟨_, none, h1, rfl, rfl, trivial⟩
  · obtain ⟨t1, h1⟩ := exo_at hok e
    obtain ⟨mA, ⟨o, es, ep, h2, _⟩, _⟩ := exd_at hok e2
    exact ⟨_, some o, h1, rfl, rfl, h2⟩
/-- isinstance(e, c), e such an exception -/
def rIsV (K : PySem.W.Frag) : List V → Hp → VK → Prop := fun xs H Q => ∃ (a D : Addr) (c : V) (cv : Value) (b : Bool), xs = [.ref a, c] ∧ IsX H a D ∧ ExcC K D ∧ (∀ u, RelV c u → u = cv) ∧ PySem.W.kitOne K (.ref D) cv = some b ∧ Q (.bl b) H
theorem call_isV : CallR X (.builtin "isinstance") (rIsV X.K) := by
  intro pins s σ H xs us Q I r h
  obtain ⟨a, D, c, cv, b, rfl, hx, C, hcv, e, q⟩ := h
  cases r with
  | cons rx rr =>
    cases rr with
    | cons rt rr =>
      cases rr
      cases rx
      have ec := hcv _ rt
      subst ec
      obtain ⟨ox, od, J⟩ := isX_at I.hok hx
      have hcl : (PySem.W.clsIn X.K D).isSome = true := by
        obtain ⟨cd, hc, _⟩ := PySem.W.any_some C.hd
        rw [hc]
        rfl
      exact PySem.W.kia_one (PySem.W.kitx_exc hcl C.hg C.hk C.hs C.ha C.hn C.ht C.hm) I.kIn J e (fun z => nomatch z) fun tk => ⟨.bl b, H, I.kept (t' := tk) fun _ _ z => z, rfl, q⟩
/-- e.f of such an exception -/
theorem pe_limV {e : Expr} {te : TE} {pos : Pos} {n : Str} (he : PE X e te) (hb : attributeBase e n X.env (eval e X.env) = eval e X.env := by rfl) :
    PE X (.Attribute e n pos) (fun σ H Q => te σ H fun x H1 => ∃ a C dx fs v, x = .ref a ∧ XfC X.K C ∧ PySem.W.findIn X.K (.ref C) n = some none ∧ H1 a = some (exo a C (some dx)) ∧ H1 dx = some (exd dx fs) ∧ fs.lookup n = some v ∧ Q v H1) := by
  refine ⟨fun pins s σ H Q I h => ?_⟩
  refine attr_of hb (thn (he.run pins s σ H _ I h) fun u s1 hh => ?_)
  obtain ⟨x, H1, I1, rx, a, C, dx, fs, v, ex, T, hno, ea, ed, l, q⟩ := hh
  subst ex
  obtain rfl : u = Value.ref a := rx
  obtain ⟨t1, ho⟩ := exo_at I1.hok ea
  obtain ⟨mA, hns, hr⟩ := exd_at I1.hok ed
  obtain ⟨od, hod, hl⟩ := lookIn_ns hns
  obtain ⟨u, hu, ru⟩ := RelO.some_of (v := v) (o := mA n) (by rw [← l]; exact hr n)
  have J : PySem.W.InstAt s1.heap a { cls := .ref C, dict := some dx, data := .fields #[.ref t1, .none, .none, .none, .bool false, .none] } C (some od) := ⟨ho, rfl, rfl, hod⟩
  exact HandSPX.exc_get I1.kIn J T.ga T.gg T.exC (PySem.W.findObj_own T.hdC hno rfl (by rw [hl, hu])) (handed_of ru) ⟨v, H1, I1.tok _, ru, q⟩
/-- str(e) of an exception that was made of one text -/
theorem call_strV (hu : X.A.units + 2 < cLine) : CallR X (.type "str") (fun xs H Q => ∃ a D t m, xs = [.ref a] ∧ H a = some (L3.ExM (.ref D) a t) ∧ H t = some (.tup [.str m]) ∧ PySem.W.findIn X.K (.ref D) "__str__" = some (some (.builtin "BaseException.__str__")) ∧ PySem.W.subIn X.K (.ref D) (.type "BaseException") = some true ∧ Q (.str m) H) := by
  intro pins s σ H xs us Q I r h
  obtain ⟨a, D, t, m, rfl, ea, et, hs, hB, q⟩ := h
  obtain ⟨u, rfl, rx⟩ := vals1 r
  cases rx
  have z : ObjOk X.prog X.w H s.heap a (L3.ExM (.ref D) a t) := I.hok a _ ea
  obtain ⟨⟨oe, vs, h1, ⟨h2, h2'⟩, h3, h4⟩, _⟩ := z
  have z2 : ObjOk X.prog X.w H s.heap t (.tup [.str m]) := I.hok t _ et
  obtain ⟨_, its, rv, ob, e1, e2, n, e3⟩ := z2
  obtain ⟨u, rfl, tk, rfl⟩ := vals1 rv
  exact PySem.P.str_of_C_one hu ⟨I.kIn, oe, vs, h1, h2, h3, h4⟩ ⟨ob, n, e1, e2, e3⟩ hs hB ⟨.str m, H, I, ⟨_, rfl⟩, q⟩
end
end L2
namespace L3
open PySem PySem.Spec PyProof.Rows L2 Mi
section
variable {C : Cv} {H : Hp} {α : Al} {μ : Sto}
theorem RpWs.es : ∀ {vs : List V} {ws : List W} {l : List (Str × Xy)}, RpWs C H α μ vs ws → asEs ws = some l → RpEs C H (Own α μ) vs l
  | _, _, _, .nil, e => by cases e; exact .nil
  | _, .e c y :: ws, _, .cons r t, e => by
    have e : (asEs ws).map ((c, y) :: ·) = some _ := e
    cases e1 : asEs ws with
    | none => rw [e1] at e; cases e
    | some l =>
      rw [e1] at e
      cases e
      exact .cons r (RpWs.es t e1)
  | _, .d _ :: ws, _, .cons r t, e => by cases e
  | _, .m _ :: ws, _, .cons r t, e => by cases e
  | _, .f _ :: ws, _, .cons r t, e => by cases e
  | _, .x _ :: ws, _, .cons r t, e => by cases e
  | _, .es _ :: ws, _, .cons r t, e => by cases e
theorem RpEs.length : ∀ {vs : List V} {l : List (Str × Xy)} {M : Addr → Prop}, RpEs C H M vs l → vs.length = l.length
  | _, _, _, .nil => rfl
  | _, _, _, .cons _ t => congrArg (· + 1) (RpEs.length t)
theorem RpEs.append {M : Addr → Prop} : ∀ {vs us : List V} {l r : List (Str × Xy)}, RpEs C H M vs l → RpEs C H M us r → RpEs C H M (vs ++ us) (l ++ r)
  | _, _, _, _, .nil, s => s
  | _, _, _, _, .cons r t, s => .cons r (RpEs.append t s)
theorem RpEs.get {M : Addr → Prop} : ∀ {vs : List V} {l : List (Str × Xy)} {i : Nat} {c : Str} {y : Xy}, RpEs C H M vs l → l[i]? = some (c, y) → ∃ v, vs[i]? = some v ∧ RpE C H M v c y
  | _, _, _, _, _, .nil, e => by simp at e
  | _, _, 0, _, _, .cons r _, e => by simp at e; obtain ⟨rfl, rfl⟩ := e; exact ⟨_, rfl, r⟩
  | _, _, i + 1, c, y, .cons _ t, e => by
    obtain ⟨v, h1, h2⟩ := RpEs.get (i := i) (c := c) (y := y) t (by simpa using e)
    exact ⟨v, by simpa using h1, h2⟩
theorem rpE_isX {M : Addr → Prop} {v : V} {c : Str} {y : Xy} (h : RpE C H M v c y) : ∃ a D, v = .ref a ∧ C.mg c = some (.ref D) ∧ IsX H a D := by
  cases y with
  | msg m => obtain ⟨a, A, t, h1, h2, h3, h4, h5⟩ := h; exact ⟨a, A, h1, h2, .inl ⟨t, h3⟩⟩
  | lim d => obtain ⟨a, A, dx, u, h1, h2, h3, h4, h5, h6, h7⟩ := h; exact ⟨a, A, h1, h2, .inr ⟨dx, _, h3, h5⟩⟩
end
section
variable {X : Cx} {T : List (Addr × Str)} {E : XK} {j : Nat} {pos : Pos} {a b ce : Expr} {es : List Expr} {f g : EF} {r : AF}
theorem de_exc1 {x m : Str} {j' : Nat} {p p2 : Pos} (hx : OwnEx X.K X.mg x) (hg : Gl X x := by rfl) (hdb : (x == ("__debug__" : Str)) = false := by decide) :
    DE X T E (.Call (.Name x p) [.Constant (.str m) j' p2] [] pos) (eExc x m) := by
  obtain ⟨A, gC, kC, xC, bC, tC⟩ := hx.ex
  refine pe_imp (pe_exc1v PySem.F.excBase_ValueError xC gC kC hg hdb) fun σ H Q ⟨ρ, α, μ, S, sl, q⟩ a t ha ht ne => ?_
  have sm : Same H (upd (upd H t (.tup [.str m])) a (ExM (.ref A) a t)) := fun b o h => by
    rw [upd_ne (ne_of_none h ha), upd_ne (ne_of_none h ht)]
    exact h
  refine q (.ref a) _ α (Same.step S sm) (S.same sm) ⟨a, A, t, rfl, gC, upd_same, S.own_ne ha, ?_⟩
  rw [upd_ne ne, upd_same]
/-- what the text's class with an own __init__ must have -/
structure TmT (P : Program) (w : World) (K : PySem.W.Frag) (mg : Str → Option Value) (base : Heap) (x : Str) : Prop where
  ex : ∃ C fI fd, mg x = some (.ref C) ∧ OexC K C ∧ PySem.W.findIn K (.ref C) "__init__" = some (some (.ref fI)) ∧ PySem.W.typeIn K (.ref fI) = some (.type "function") ∧ Binds K fd ["self", "limit"] [] ∧
    FnOk P w K mg base (L2N.CX P w) 1 fI fd ["self", "limit"] (spTM C) ∧ XfC K C ∧ PySem.W.findIn K (.ref C) "limit" = some none
theorem de_newX {x : Str} {p : Pos} (ck : CK X E j) (tm : TmT X.prog X.w X.K X.mg X.base x) (ha : DE X T E a f) (hj : 2 ≤ j := by decide) (hg : Gl X x := by rfl) (hdb : (x == ("__debug__" : Str)) = false := by decide)
    (he : starEach [a] X.env = (false, eval a X.env) :: starEach [] X.env := by rfl) : DE X T E (.Call (.Name x p) [a] [] pos) (eNewX x f) := by
  obtain ⟨C, fI, fd, gC, ox, iC, tI, hb, Fn, xf, hlim⟩ := tm.ex
  refine pe_imp (pe_oexV (dvs := []) ox iC tI Fn (ck.room.mono hj) hb .nil pass_e0 hg gC (pa_cons ha pa_nil he) hdb he (by rfl)) fun σ H Q ⟨ρ, α, μ, S, sl, q⟩ => tD_bind S sl q fun v w H1 α1 μ1 st1 S1 sl1 r1 q1 => ?_
  cases w with
  | d d =>
    refine ⟨by show 1 ≤ 1000; omega, fun a ha => ⟨a, v, rfl, upd_same, fun dx hd ne => ⟨rfl, ?_⟩⟩⟩
    have hd1 : H1 dx = none := by rw [upd_ne ne] at hd; exact hd
    have sm : Same H1 (upd (upd (upd H1 a (exo a C none)) dx (exd dx [("limit", v)])) a (exo a C (some dx))) := fun b o h => by
      rw [upd_ne (ne_of_none h ha), upd_ne (ne_of_none h hd1), upd_ne (ne_of_none h ha)]
      exact h
    refine q1 (.ref a) _ α1 (Same.step S1 sm) (S1.same sm) ⟨a, C, dx, v, rfl, gC, upd_same, S1.own_ne ha, ?_, S1.own_ne hd1, Rp.ext (Same.ext sm _) r1⟩
    rw [upd_ne ne, upd_same]
  | _ => exact (show False from q1).elim
theorem de_lstE (hr : DA X T E es r) (hl : es.length ≤ 1000 := by decide) : DE X T E (.List es pos) (eLstE r) :=
  pe_imp (pe_lst hr.pa) fun σ H Q ⟨ρ, α, μ, S, sl, q⟩ => hr.read (C := CvX X T) S sl q fun vs ws H1 α1 μ1 st S1 sl1 rs ln q1 => by
    refine ⟨by rw [rs.length, ln]; exact Nat.le_trans hl (by decide), fun p np => ?_⟩
    split at q1
    · rename_i l e1
      have sm := same_upd (o := .lst vs) np
      exact q1 _ _ _ (Same.step S1 sm) (S1.same sm) ⟨p, vs, rfl, .inl upd_same, S1.own_ne np, (rs.es e1).ext (Same.ext sm _)⟩
    · exact (show False from q1).elim
theorem de_catE (ha : DE X T E a f) (hb : DE X T E b g) : DE X T E (.BinOp a .Add b pos) (eCatE f g) :=
  pe_imp (pe_op op_catR ha hb) fun σ H Q ⟨ρ, α, μ, S, sl, q⟩ => tD_bind S sl q fun v w H1 α1 μ1 st1 S1 sl1 r1 q1 => tD_bind S1 sl1 q1 fun u w2 H2 α2 μ2 st2 S2 sl2 r2 q2 => by
    have r1 := r1.step st2
    split at q2
    · split at q2
      · rename_i hl
        obtain ⟨p1, xs, rfl, h1, n1, s1⟩ := r1
        obtain ⟨p2, ys, rfl, h2, n2, s2⟩ := r2
        refine ⟨p1, p2, xs, ys, rfl, rfl, h1, h2, by rw [s1.length, s2.length]; exact lim_line hl, fun p np => ?_⟩
        have sm := same_upd (o := .lst (xs ++ ys)) np
        exact q2 _ _ _ (Same.step S2 sm) (S2.same sm) ⟨p, _, rfl, .inl upd_same, S2.own_ne np, (s1.append s2).ext (Same.ext sm _)⟩
      · exact (show False from q2).elim
    · exact (show False from q2).elim
theorem de_lenE {p : Pos} (hm : X.mg "len" = none) (ha : DE X T E a f) (hg : Gl X "len" := by rfl) (he : starEach [a] X.env = (false, eval a X.env) :: starEach [] X.env := by rfl) : DE X T E (.Call (.Name "len" p) [a] [] pos) (eLenE f) :=
  pe_imp (pe_callB call_len hg hm PySem.boot_len (pa_cons ha pa_nil he) (he := he)) fun σ H Q ⟨ρ, α, μ, S, sl, q⟩ => tD_bind S sl q fun v w H1 α1 μ1 st1 S1 sl1 r1 q1 => by
    cases w with
    | es l =>
      obtain ⟨p1, xs, rfl, h1, n1, s1⟩ := r1
      refine ⟨_, xs.length, rfl, .inl ⟨xs, .inl h1, rfl⟩, ?_⟩
      have q1 : PQ (CvX X T) E Q H1 α1 μ1 (.ok (.d (.int l.length)) μ1) := q1
      rw [s1.length]
      exact PQ.ok (w := .d (.int l.length)) S1 (.int _) q1
    | _ => exact (show False from q1).elim
theorem de_ixE (ha : DE X T E a f) (hb : DE X T E b g) (hs : PlainIx b := by exact fun _ _ => rfl) : DE X T E (.Subscript a b pos) (eIxE f g) :=
  pe_imp (pe_ix ix_list ha hb hs) fun σ H Q ⟨ρ, α, μ, S, sl, q⟩ => tD_bind S sl q fun v w H1 α1 μ1 st1 S1 sl1 r1 q1 => tD_bind S1 sl1 q1 fun u w2 H2 α2 μ2 st2 S2 sl2 r2 q2 => by
    have r1 := r1.step st2
    cases w with
    | es l =>
      cases w2 with
      | d d =>
        cases d with
        | int i =>
          have q2 : PQ (CvX X T) E Q H2 α2 μ2 (match (ixI l.length i).bind fun k => l[k]? with
            | some (c, y) => .ok (.e c y) μ2
            | none => .no) := q2
          obtain ⟨p1, xs, rfl, h1, n1, s1⟩ := r1
          obtain rfl : u = .int i := by cases r2; rfl
          split at q2
          · rename_i c y e1
            cases e2 : ixI l.length i with
            | none => rw [e2] at e1; cases e1
            | some k =>
              rw [e2] at e1
              obtain ⟨v, h2, h3⟩ := s1.get (show l[k]? = some (c, y) from e1)
              refine ⟨p1, xs, i, v, rfl, rfl, .inl h1, ?_, PQ.ok (w := .e c y) S2 h3 q2⟩
              show (ixN xs.length i).bind (fun j => xs[j]?) = some v
              have key : ixI l.length i = ixN l.length i := rfl
              rw [s1.length, ← key, e2]
              exact h2
          · exact (show False from q2).elim
        | _ => exact (show False from q2).elim
      | _ => exact (show False from q2).elim
    | _ => exact (show False from q2).elim
theorem de_isV {p : Pos} {t : Str → Option Bool} {c : V} {cv : Value} (hm : X.mg "isinstance" = none) (ha : DE X T E a f) (hc : PE X ce (tC c)) (hcv : ∀ u, RelV c u → u = cv) (ht : ∀ x b, t x = some b → ∃ D, X.mg x = some (.ref D) ∧ ExcC X.K D ∧ PySem.W.kitOne X.K (.ref D) cv = some b)
    (hg : Gl X "isinstance" := by rfl) (he : starEach [a, ce] X.env = (false, eval a X.env) :: starEach [ce] X.env := by rfl) (he2 : starEach [ce] X.env = (false, eval ce X.env) :: starEach [] X.env := by rfl) (hpl : (backTo pos (starEach [ce] X.env)).any (·.1) = false := by rfl) :
    DE X T E (.Call (.Name "isinstance" p) [a, ce] [] pos) (eIsV t f) :=
  pe_imp (pe_callB call_isV hg hm PyProof.Rows.boot_isinstance (pa_cons ha (pa_cons hc pa_nil he2) he) (he := he) (hpl := hpl)) fun σ H Q ⟨ρ, α, μ, S, sl, q⟩ => tD_bind S sl q fun v w H1 α1 μ1 st1 S1 sl1 r1 q1 => by
    cases w with
    | e x y =>
      obtain ⟨z, e2, q2⟩ := PQ.ofO q1
      cases e3 : t x with
      | none => rw [e3] at e2; cases e2
      | some k =>
        rw [e3] at e2
        cases e2
        obtain ⟨D, g1, g2, g3⟩ := ht x k e3
        obtain ⟨a, D', rfl, g4, g5⟩ := rpE_isX r1
        have g4 : X.mg x = some (.ref D') := g4
        rw [g1] at g4
        cases g4
        exact ⟨a, D, c, cv, k, rfl, g5, g2, hcv, g3, PQ.bl S1 q2⟩
    | _ => exact (show False from q1).elim
theorem de_lim {x : Str} (ht : ∀ D, X.mg x = some (.ref D) → XfC X.K D ∧ PySem.W.findIn X.K (.ref D) "limit" = some none) (ha : DE X T E a f) (hb : attributeBase a "limit" X.env (eval a X.env) = eval a X.env := by rfl) : DE X T E (.Attribute a "limit" pos) (eLim x f) :=
  pe_imp (pe_limV ha hb) fun σ H Q ⟨ρ, α, μ, S, sl, q⟩ => tD_bind S sl q fun v w H1 α1 μ1 st1 S1 sl1 r1 q1 => by
    cases w with
    | e c y =>
      cases y with
      | msg m => exact (show False from q1).elim
      | lim d =>
        dsimp only at q1
        split at q1
        · rename_i ec
          subst ec
          obtain ⟨p, D, dx, u, rfl, g1, h1, n1, h2, n2, r2⟩ := r1
          obtain ⟨xf, hno⟩ := ht D g1
          exact ⟨p, D, dx, _, u, rfl, xf, hno, h1, h2, rfl, PQ.ok (w := .d d) S1 r2 q1⟩
        · exact (show False from q1).elim
    | _ => exact (show False from q1).elim
theorem de_strX {p : Pos} (ck : CK X E j) (hm : X.mg "str" = none) (ha : DE X T E a f) (ht : ∀ c D, X.mg c = some (.ref D) → c ∈ ownCls → PySem.W.findIn X.K (.ref D) "__str__" = some (some (.builtin "BaseException.__str__")) ∧ PySem.W.subIn X.K (.ref D) (.type "BaseException") = some true)
    (hg : Gl X "str" := by rfl) (he : starEach [a] X.env = (false, eval a X.env) :: starEach [] X.env := by rfl) : DE X T E (.Call (.Name "str" p) [a] [] pos) (eStrX f) :=
  pe_imp (pe_callTy (call_strV (by have := ck.hu; omega)) hg hm PyProof.Rows.boot_str (pa_cons ha pa_nil he) (he := he)) fun σ H Q ⟨ρ, α, μ, S, sl, q⟩ => tD_bind S sl q fun v w H1 α1 μ1 st1 S1 sl1 r1 q1 => by
    cases w with
    | e c y =>
      cases y with
      | lim d => exact (show False from q1).elim
      | msg m =>
        dsimp only at q1
        split at q1
        · rename_i ec
          obtain ⟨p, D, t, rfl, g1, h1, n1, h2⟩ := r1
          obtain ⟨g2, g3⟩ := ht c D g1 (by simpa using ec)
          exact ⟨p, D, t, m, rfl, h1, h2, g2, g3, PQ.ok (w := .d (.str m)) S1 (.str m) q1⟩
        · exact (show False from q1).elim
    | _ => exact (show False from q1).elim
theorem lcE_rd {vs : List Nat} {i : Nat} {σ : L2.St} {H : Hp} {Q : VK} (hw : i ∈ vs) (q : tD (CvX X T) E (eLcE vs i f g) σ H Q) :
    tLc (iList X.K (tD (CvX X T) E f)) (gName i) tYes (tD (CvX X T) E0 g) vs σ H Q := by
  obtain ⟨ρ, α, μ, S, sl, q⟩ := q
  refine tD_bind (Q' := fun x H1 => ∃ a, x = .ref a ∧ (∃ xs, SqL X.K H1 a xs) ∧ _) S sl q fun v w H1 α1 μ1 st1 S1 sl1 r1 q1 => ?_
  cases w with
  | es l =>
    obtain ⟨p, us, rfl, hL, nO, rs⟩ := r1
    refine ⟨p, rfl, ⟨us, .inl hL⟩, fun P nP => ?_⟩
    have q1 : PQ (CvX X T) E Q H1 α1 μ1 (if l.length ≤ LIM then lcW i g (wipeE ρ vs) (l.map fun p => W.e p.1 p.2) [] μ1 else .no) := q1
    by_cases hLIM : l.length ≤ LIM
    case neg => rw [if_neg hLIM] at q1; exact (show False from q1).elim
    rw [if_pos hLIM] at q1
    have hlen := rs.length
    have I0 : LcInv (CvX X T) P H1 α1 μ1 0 [] (upd H1 P (.lst [])) α1 μ1 [] :=
      ⟨stor_hide S1 nP, ext_hide S1 nP, fun _ _ h => h, rfl, (Same.step S1 (same_upd nP)).keep, upd_same, Nat.le_refl _, .nil⟩
    refine ⟨fun n m H2 => m = l.length - n ∧ n ≤ l.length ∧ ∃ α2 μ2 acc accD, LcInv (CvX X T) P H1 α1 μ1 n accD H2 α2 μ2 acc ∧ PQ (CvX X T) E Q H1 α1 μ1 (lcW i g (wipeE ρ vs) ((l.drop n).map fun p => W.e p.1 p.2) accD μ2),
      ⟨l.length, rfl, Nat.zero_le _, α1, μ1, [], [], I0, q1⟩, ?_⟩
    rintro n m H2 ⟨rfl, hi, α2, μ2, acc, accD, I2, q2⟩
    have hT2 : Rd H2 p (.lst us) := (I2.ext.rd hL nO).1
    by_cases hlt : n < l.length
    · have hd : l[n]? = some (l[n]) := List.getElem?_eq_getElem hlt
      rw [List.drop_eq_getElem_cons hlt] at q2
      obtain ⟨v, hv, rv⟩ := rs.get (c := l[n].1) (y := l[n].2) hd
      have rv2 : RpW (CvX X T) H1 α1 μ1 v (.e l[n].1 l[n].2) := rv
      refine .inr ⟨⟨us, v, .inl hT2, hv⟩, fun H3 => n + 1 ≤ l.length ∧ ∃ α2 μ2 acc accD, LcInv (CvX X T) P H1 α1 μ1 (n + 1) accD H3 α2 μ2 acc ∧ PQ (CvX X T) E Q H1 α1 μ1 (lcW i g (wipeE ρ vs) ((l.drop (n + 1)).map fun p => W.e p.1 p.2) accD μ2), fun H3 n => ⟨_, by omega, rfl, n⟩, fun x H3 yy => ?_⟩
      obtain ⟨rfl, yy⟩ := yy
      have ex := yy us (.inl hT2)
      rw [hv] at ex
      cases ex
      have sl3 : Sl (CvX X T) H3 (α2.hide P) μ2 (L2.wipe σ vs) (wipeE ρ vs) := by
        have z := sl1.wipe vs
        refine ⟨z.len, fun i w h => ?_⟩
        obtain ⟨v, h1, h2⟩ := z.at_ i w h
        exact ⟨v, h1, rpw_inv I2 h2⟩
      have sl4 := sl3.set (rpw_inv I2 rv2) i
      refine ⟨wipe_set hw, ?_⟩
      dsimp only [tYes]
      rw [if_pos rfl]
      rw [List.map_cons] at q2
      unfold lcW at q2
      refine ⟨(wipeE ρ vs).set i (some (.e l[n].1 l[n].2)), α2.hide P, μ2, I2.stor, sl4, ?_⟩
      split at q2
      · rename_i z μ6 eg
        rw [eg]
        intro v6 H6 α6 st6 S6 r6
        obtain ⟨α7, e7, I7⟩ := I2.go st6 S6
        subst e7
        have hus : us.length ≤ sizeLine := by rw [hlen]; exact lim_line hLIM
        exact ⟨acc, I7.list, Nat.lt_of_le_of_lt I7.len (Nat.lt_of_lt_of_le hlt (by rw [← hlen]; exact hus)), hlt, α7, μ6, _, _, I7.put nP S1 r6, q2⟩
      · exact q2.elim
    · have e0 : l.drop n = [] := List.drop_eq_nil_of_le (by omega)
      rw [e0] at q2
      refine .inl ⟨⟨us, .inl hT2, by omega⟩, q2 _ H2 α2 I2.st (stor_unhide I2.stor) (.lst (.inl I2.list) (fun z => ?_) (I2.rep.ext ext_unhide))⟩
      have hn := (nodup_hide I2.stor).1
      rcases z with ⟨k, c, h1, h2⟩ | z
      · exact hn (List.mem_append_left _ (List.mem_of_getElem? h1))
      · exact hn (List.mem_append_right _ z)
  | _ => exact (show False from q1).elim
theorem de_lcE {i : Nat} {x : Str} {p : Pos} {it elt : Expr} {scope : Scope} {own : List (Str × Nat)} (ck : CK X E j) (hr : DE X T E it f) (ok : BlkOk X.N X.env.scope scope own)
    (hg : ∀ (s : Shared) (H : Hp) (D : Addr) (cl : List (Str × Addr)) (fp : List Addr), PG (X.blk s H scope (compEnvC scope cl D X.env) fp) (.Name x p) (gName i))
    (he : ∀ (s : Shared) (H : Hp) (D : Addr) (cl : List (Str × Addr)) (fp : List Addr), CK (X.blk s H scope (compEnvC scope cl D X.env) fp) E0 j → DE (X.blk s H scope (compEnvC scope cl D X.env) fp) T E0 elt g)
    (hw : i ∈ own.map (·.2) := by decide) (hs : ∀ x, foldedSetIterable it X.env x = pure x := by intro _; rfl) :
    DE X T E (.ListComp elt [⟨.Name x p, it, [], 0⟩] scope pos) (eLcE (own.map (·.2)) i f g) :=
  pe_imp (pe_lc (g := gName i) (tt := tYes) (te := tD (CvX X T) E0 g) ck.calm ck.nd (pi_list hr) ok hg (fun s H D cl fp => pts_nil) (fun s H D cl fp => he s H D cl fp (ck.blk s H scope _ fp)) hs) fun σ H Q q => lcE_rd hw q
end
end L3

set_option Elab.async false
set_option linter.all false
set_option maxRecDepth 100000
set_option maxHeartbeats 2000000
/-! The head's facts of an own exception class with an own __init__ (super() in it); isinstance and str of own errors. -/
namespace L3
open PySem PySem.Spec PyProof.Rows L2 Mi He
abbrev FnCW : Type := Option (Str × Str × Arguments × FuncBody × Scope × Addr × List Str × Addr)
def fnC (K : PySem.W.Frag) (x : Str) : FnCW := match K.lookup (ma K (ga K x) "__init__") with
  | some ⟨_, _, .func fd, _⟩ => some (fd.name, fd.qualname, fd.params, fd.body, fd.scope, fd.globals, fd.closure.map (·.1), fd.builtins)
  | _ => none
structure QrD where
  cls : Str
  qual : Str
  params : Arguments
  body : List Stmt
  scope : Scope
def QrD.val (d : QrD) : FnCW := some ("__init__", d.qual, d.params, .stmts d.body, d.scope, mainGlobals, ["__class__"], builtinsNs)
def oexB (K : PySem.W.Frag) (C : Addr) : Bool := match K.lookup C with
  | some ⟨.type "type", _, .cls cd, sl⟩ => (match cd.mro, sl.toList with
    | .ref C' :: bm, [_, _, _, _, some (.builtin n), _] => C' == C && (n == "ValueError.__new__" && (!cd.hasDel && (PySem.HandSPX.refsVE bm && cd.hasDict)))
    | _, _ => false)
  | _ => false
theorem oexB_ok {K : PySem.W.Frag} {C : Addr} (q : oexB K C = true) : ∃ nm q N bs bm sn sub ab col dd k0 k1 k2 k3 k5, K.lookup C = some (excClassObj nm q C N bs bm true sn sub ab col dd k0 k1 k2 k3 k5 "ValueError.__new__") ∧ PySem.HandSPX.refsVE bm = true := by
  unfold oexB at q
  split at q
  · rename_i dd cd sl ho
    split at q
    · rename_i C' bm k0 k1 k2 k3 n k5 hm hs
      simp only [Bool.and_eq_true, beq_iff_eq, Bool.not_eq_true'] at q
      obtain ⟨rfl, rfl, hdel, hr, hd⟩ := q
      obtain ⟨nm, bs, mro, ns, qn, hd', sn, sub, ab, col, del⟩ := cd
      dsimp only at hm hdel hd
      subst hm hdel hd
      have hsl : sl = #[k0, k1, k2, k3, some (.builtin "ValueError.__new__"), k5] := by
        obtain ⟨l⟩ := sl
        simp only at hs
        rw [hs]
      subst hsl
      exact ⟨nm, qn, ns, bs, bm, sn, sub, ab, col, dd, k0, k1, k2, k3, k5, ho, hr⟩
    · cases q
  · cases q
/-- where the code object of the own __init__ stands, its file, the cell of __class__ -/
def qCode (K : PySem.W.Frag) (x : Str) : Addr := match K.lookup (ma K (ga K x) "__init__") with
  | some ⟨_, _, .func fd, _⟩ => (match fd.code with | .ref c => c | _ => 0)
  | _ => 0
def qCell (K : PySem.W.Frag) (x : Str) : Addr := match K.lookup (ma K (ga K x) "__init__") with
  | some ⟨_, _, .func fd, _⟩ => (match fd.closure with | [(_, c)] => c | _ => 0)
  | _ => 0
def ownB (K : PySem.W.Frag) (x : Str) (qual : Str) (file : Str) : Bool :=
  oexB K (ga K x) && (eqO (PySem.W.findIn K (.ref (ga K x)) "__setattr__") (some (some (.builtin "object.__setattr__"))) && (decide (PySem.W.subIn K (.ref (ga K x)) (.type "BaseException") = some true) &&
  (decide (PySem.W.typeIn K (.ref (ga K x)) = some (.type "type")) && (PySem.W.keepIn K (.ref (ga K x)) && (eqO (PySem.W.findIn K (.ref (ga K x)) "__init__") (some (some (.ref (ma K (ga K x) "__init__")))) &&
  (decide (PySem.W.typeIn K (.ref (ma K (ga K x) "__init__")) = some (.type "function")) && (PySem.W.codeIn K (.ref (qCode K x)) qual && ((match K.lookup (qCode K x) with
    | some ⟨_, _, .fields vs, _⟩ => (match (vs[2]? : Option Value) with | some (Value.str f _) => f == file | _ => false)
    | _ => false) && ((match K.lookup (qCell K x) with
    | some ⟨_, _, .cell (some (.ref D)), _⟩ => D == ga K x
    | _ => false) && (decide (PySem.W.mroIn K (ga K x) (.ref (ga K x)) = some true) && (decide (PySem.W.nsIn K cStatics "thirdparty.any" = some none) && (eqO (PySem.W.ks_superIn K (ga K x) (ga K x) "__init__") (some (some (.builtin "ValueError.__init__"))) &&
  (decide (PySem.W.subIn K (.ref (ga K x)) (.type "ValueError") = some true) && (eqO (PySem.W.findIn K (.ref (ga K x)) "limit") (some none) && (xfB K (ga K x) &&
  (match K.lookup (ma K (ga K x) "__init__") with
    | some ⟨_, _, .func fd, _⟩ => (match fd.closure, fd.code with | [_], .ref _ => dflB K fd.defaults [] && kwdB K fd.kwdefaults [] | _, _ => false)
    | _ => false))))))))))))))))
theorem tmF_of {P : Program} {K : PySem.W.Frag} {x file : Str} {d : QrD} (hx : d.cls = x) (c : ownB K x d.qual file = true) (e : fnC K x = d.val) (hfile : (P.main.file : Str) = file) (htop : (P.main.scope.names.lookup ("super" : Str)).isSome = false) :
    TmF P K (ga K x) (ma K (ga K x) "__init__") (qCode K x) (qCell K x) d.qual d.params d.body d.scope ∧ PySem.W.findIn K (.ref (ga K x)) "__init__" = some (some (.ref (ma K (ga K x) "__init__"))) ∧ PySem.W.typeIn K (.ref (ma K (ga K x) "__init__")) = some (.type "function") ∧
      XfC K (ga K x) ∧ OexC K (ga K x) := by
  unfold ownB at c
  simp only [Bool.and_eq_true, decide_eq_true_eq] at c
  obtain ⟨c1, c2, c3, c4, c5, c6, c7, c8, c9, c10, c11, c12, c13, c14, c15, c16, c17⟩ := c
  refine ⟨⟨⟨oexB_ok c1, eqO_ok c2, c3, c4, c5⟩, ?_, c8, ?_, ?_, c11, htop, c12, eqO_ok c13, c14, eqO_ok c15⟩, eqO_ok c6, c7, xfB_ok c16, ⟨oexB_ok c1, eqO_ok c2, c3, c4, c5⟩⟩
  · unfold fnC at e
    cases q : K.lookup (ma K (ga K x) "__init__") with
    | none => rw [q] at c17; cases c17
    | some o =>
      obtain ⟨oc, od, dt, osl⟩ := o
      rw [q] at c17 e
      cases dt with
      | func fd =>
        have e2 : (some (fd.name, fd.qualname, fd.params, fd.body, fd.scope, fd.globals, fd.closure.map (·.1), fd.builtins) : FnCW) = some (("__init__" : Str), d.qual, d.params, FuncBody.stmts d.body, d.scope, mainGlobals, (["__class__"] : List Str), builtinsNs) := e
        have hc : qCode K x = (match fd.code with | .ref c => c | _ => 0) := by unfold qCode; rw [q]
        have hk : qCell K x = (match fd.closure with | [(_, c)] => c | _ => 0) := by unfold qCell; rw [q]
        cases fd with
        | mk a1 a2 a3 a4 a5 a6 a7 a8 a9 a10 a11 a12 a13 a14 a15 =>
          simp only [Option.some.injEq, Prod.mk.injEq] at e2
          obtain ⟨h1, h2, h3, h4, h5, h6, h7, h8⟩ := e2
          dsimp only at hc hk c17
          subst h1 h2 h3 h4 h5 h6 h8
          cases a7 with
          | nil => exact absurd (congrArg List.length h7) (by simp)
          | cons p a7 =>
            cases a7 with
            | cons p2 a7 => exact absurd (congrArg List.length h7) (by simp)
            | nil =>
              obtain ⟨p1, p2⟩ := p
              have h8 : p1 = ("__class__" : Str) := (List.cons.inj h7).1
              subst h8
              cases a13 with
              | ref c0 =>
                have c17 : (dflB K a8 [] && kwdB K a9 []) = true := c17
                obtain ⟨c18, _⟩ := ba c17
                cases a8 with
                | none => exact ⟨oc, od, a9, a10, a11, a12, a14, osl, by rw [hc, hk]⟩
                | _ => cases c18
              | _ => cases c17
      | _ => cases c17
  · split at c9
    · rename_i a b vs sl q
      split at c9
      · rename_i f tf e2
        exact ⟨_, _, vs, _, f, tf, q, e2, by rw [hfile, eq_of_beq c9]; exact beq_self_eq_true _⟩
      · cases c9
    · cases c9
  · split at c10
    · rename_i a b D sl q
      have := eq_of_beq c10
      subst this
      exact ⟨_, _, _, q⟩
    · cases c10
/-- all that a law needs of such a class -/
structure OwnTm (P : Program) (K : PySem.W.Frag) (mg : Str → Option Value) (x : Str) : Prop where
  ex : ∃ C fI cda cc qual params body scope msg, mg x = some (.ref C) ∧ mg "super" = none ∧ TmF P K C fI cda cc qual params body scope ∧ tmText msg scope body ∧ TmS params scope ∧ PySem.W.findIn K (.ref C) "__init__" = some (some (.ref fI)) ∧
    PySem.W.typeIn K (.ref fI) = some (.type "function") ∧ XfC K C ∧ ∀ (kV doc pm : Value) (an : Option Addr) (cdv ct : Value) (cc : Addr) (us : List Value), us.length = 2 → bindArgs (PySem.W.ksFn "__init__" qual params body scope .none kV doc pm an cdv ct cc) ⟨us, []⟩ = pure ((["self", "limit"] : List Str).zip us)
theorem OwnTm.tm {P : Program} {w : World} {K : PySem.W.Frag} {mg : Str → Option Value} {base : Heap} {x : Str} (o : OwnTm P K mg x) : TmT P w K mg base x := by
  obtain ⟨C, fI, cda, cc, qual, params, body, scope, msg, hx, hs, T, hB, S, iC, tI, xf, hb⟩ := o.ex
  obtain ⟨oc, od, kV, doc, pm, an, ct, osl, lk⟩ := T.lk
  exact ⟨C, fI, _, hx, T.ox, iC, tI, Binds.all fun us hl => hb kV doc pm an (.ref cda) ct cc us hl, tm_ok (k := 0) T hs hB S ⟨oc, od, osl, lk⟩, xf, T.lim⟩
theorem OwnTm.lim {P : Program} {K : PySem.W.Frag} {mg : Str → Option Value} {x : Str} (o : OwnTm P K mg x) : ∀ D, mg x = some (.ref D) → XfC K D ∧ PySem.W.findIn K (.ref D) "limit" = some none := fun D hD => by
  obtain ⟨C, fI, cda, cc, qual, params, body, scope, msg, hx, hs, T, hB, S, iC, tI, xf, hb⟩ := o.ex
  rw [hx] at hD
  cases hD
  exact ⟨xf, T.lim⟩
/-! ### isinstance, str -/
/-- what is asked of the class x, as a row of answers -/
def vRowB (K : PySem.W.Frag) (x : Str) (b : Nat → Bool) : Bool := excCB K (ga K x) && (decide (PySem.W.kitOne K (.ref (ga K x)) (.ref (ga K "WalkError")) = some true) && (decide (PySem.W.kitOne K (.ref (ga K x)) (.type "ValueError") = some (b 16)) &&
  (((List.range 16).all fun j => decide (PySem.W.kitOne K (.ref (ga K x)) (.ref (ga K (ownCls.getD j ""))) = some (b j))) && (eqO (PySem.W.findIn K (.ref (ga K x)) "__str__") (some (some (.builtin "BaseException.__str__"))) && decide (PySem.W.subIn K (.ref (ga K x)) (.type "BaseException") = some true)))))
structure VRow (K : PySem.W.Frag) (mg : Str → Option Value) (x : Str) (b : Nat → Bool) : Prop where
  ex : ∃ D CS, mg x = some (.ref D) ∧ mg "WalkError" = some (.ref CS) ∧ ExcC K D ∧ PySem.W.kitOne K (.ref D) (.ref CS) = some true ∧ PySem.W.kitOne K (.ref D) (.type "ValueError") = some (b 16) ∧
    (∀ (j : Nat) (y : Str) (A : Addr), ownCls[j]? = some y → mg y = some (.ref A) → PySem.W.kitOne K (.ref D) (.ref A) = some (b j)) ∧ PySem.W.findIn K (.ref D) "__str__" = some (some (.builtin "BaseException.__str__")) ∧ PySem.W.subIn K (.ref D) (.type "BaseException") = some true
theorem vRow_ok {K : PySem.W.Frag} {mg : Str → Option Value} {x : Str} {b : Nat → Bool} (h : vRowB K x b = true) (hx : mg x = some (.ref (ga K x))) (hW : mg "WalkError" = some (.ref (ga K "WalkError"))) (hg : ∀ y ∈ ownCls, mg y = some (.ref (ga K y))) : VRow K mg x b := by
  unfold vRowB at h
  simp only [Bool.and_eq_true, decide_eq_true_eq, List.all_eq_true] at h
  obtain ⟨h1, h2, h3, h4, h5, h6⟩ := h
  refine ⟨ga K x, ga K "WalkError", hx, hW, excCB_ok h1, h2, h3, fun j y A hj hy => ?_, eqO_ok h5, h6⟩
  have e := hg y (List.mem_of_getElem? hj)
  rw [hy] at e
  cases e
  have hlt : j < 16 := (List.getElem?_eq_some_iff.mp hj).1
  have z := h4 j (List.mem_range.mpr hlt)
  rw [show ownCls.getD j "" = y from by rw [List.getD_eq_getElem?_getD, hj]; rfl] at z
  exact z
/-- all rows -/
structure VRows (K : PySem.W.Frag) (mg : Str → Option Value) : Prop where
  own : ∀ i x, ownCls.idxOf? x = some i → VRow K mg x (bOf i)
  walk : VRow K mg "WalkError" (fun j => j == 16)
def vRowsB (K : PySem.W.Frag) : Bool := (ownCls.all fun x => match ownCls.idxOf? x with | some i => vRowB K x (bOf i) | none => false) && vRowB K "WalkError" (fun j => j == 16)
theorem idx_mem {x : Str} {i : Nat} (h : ownCls.idxOf? x = some i) : x ∈ ownCls := by
  have z := List.isSome_idxOf? (l := ownCls) (a := x)
  rw [h] at z
  simpa using z
theorem vRows_ok {K : PySem.W.Frag} {mg : Str → Option Value} (h : vRowsB K = true) (hW : mg "WalkError" = some (.ref (ga K "WalkError"))) (hg : ∀ y ∈ ownCls, mg y = some (.ref (ga K y))) : VRows K mg := by
  obtain ⟨h1, h2⟩ := ba h
  refine ⟨fun i x hi => ?_, vRow_ok h2 hW hW hg⟩
  have hm := idx_mem hi
  have z := List.all_eq_true.mp h1 x hm
  rw [hi] at z
  exact vRow_ok z (hg x hm) hW hg
section
variable {K : PySem.W.Frag} {mg : Str → Option Value}
theorem VRows.is (v : VRows K mg) {j : Nat} {y : Str} {A : Addr} (hj : ownCls[j]? = some y) (hA : mg y = some (.ref A)) : ∀ x b, isTab j x = some b → ∃ D, mg x = some (.ref D) ∧ ExcC K D ∧ PySem.W.kitOne K (.ref D) (.ref A) = some b := fun x b e => by
  unfold isTab at e
  split at e
  · rename_i ex
    subst ex
    obtain ⟨D, CS, h1, h2, h3, h4, h5, h6, _⟩ := v.walk.ex
    cases e
    exact ⟨D, h1, h3, h6 j y A hj hA⟩
  · cases ei : ownCls.idxOf? x with
    | none => rw [ei] at e; cases e
    | some i =>
      rw [ei] at e
      cases e
      obtain ⟨D, CS, h1, h2, h3, h4, h5, h6, _⟩ := (v.own i x ei).ex
      exact ⟨D, h1, h3, h6 j y A hj hA⟩
theorem VRows.isV (v : VRows K mg) : ∀ x b, isTab 16 x = some b → ∃ D, mg x = some (.ref D) ∧ ExcC K D ∧ PySem.W.kitOne K (.ref D) (.type "ValueError") = some b := fun x b e => by
  unfold isTab at e
  split at e
  · rename_i ex
    subst ex
    obtain ⟨D, CS, h1, h2, h3, h4, h5, h6, _⟩ := v.walk.ex
    cases e
    exact ⟨D, h1, h3, h5⟩
  · cases ei : ownCls.idxOf? x with
    | none => rw [ei] at e; cases e
    | some i =>
      rw [ei] at e
      cases e
      obtain ⟨D, CS, h1, h2, h3, h4, h5, h6, _⟩ := (v.own i x ei).ex
      exact ⟨D, h1, h3, h5⟩
theorem VRows.isW (v : VRows K mg) {A : Addr} (hA : mg "WalkError" = some (.ref A)) : ∀ x b, isTabW x = some b → ∃ D, mg x = some (.ref D) ∧ ExcC K D ∧ PySem.W.kitOne K (.ref D) (.ref A) = some b := fun x b e => by
  unfold isTabW at e
  split at e
  · rename_i hx
    cases e
    rcases hx with rfl | hx
    · obtain ⟨D, CS, h1, h2, h3, h4, _⟩ := v.walk.ex
      rw [hA] at h2
      cases h2
      exact ⟨D, h1, h3, h4⟩
    · have hm : x ∈ ownCls := by simpa using hx
      cases ei : ownCls.idxOf? x with
      | none =>
        have z := List.isSome_idxOf? (l := ownCls) (a := x)
        rw [ei] at z
        simp [hm] at z
      | some i =>
        obtain ⟨D, CS, h1, h2, h3, h4, _⟩ := (v.own i x ei).ex
        rw [hA] at h2
        cases h2
        exact ⟨D, h1, h3, h4⟩
  · cases e
theorem VRows.str (v : VRows K mg) : ∀ c D, mg c = some (.ref D) → c ∈ ownCls → PySem.W.findIn K (.ref D) "__str__" = some (some (.builtin "BaseException.__str__")) ∧ PySem.W.subIn K (.ref D) (.type "BaseException") = some true := fun c D hD hm => by
  cases ei : ownCls.idxOf? c with
  | none =>
    have z := List.isSome_idxOf? (l := ownCls) (a := c)
    rw [ei] at z
    simp [hm] at z
  | some i =>
    obtain ⟨D', CS, h1, h2, h3, h4, h5, h6, h7, h8⟩ := (v.own i c ei).ex
    rw [hD] at h1
    cases h1
    exact ⟨h7, h8⟩
end
/-! ### the hook with such classes -/
/-- .. the model's own flags too -/
def asC (g : Addr → Option Obj) (n : Nat) : List Addr := asD g n ++ [cStatics]
def obsXQ (n : Nat) (fa : List Fa) (fn : List DefD) (ts : List Tab) (tf : List Defn) (ex : PySem.W.Frag → Bool) (g : Addr → Option Obj) : AlX := (obsT fa fn ts (frT g (asC g n)), ex (frT g (asC g n)) && tabsB g tf (frT g (asC g n)))
theorem saysXQ_of {n : Nat} {fa : List Fa} {fn : List DefD} {ts : List Tab} {tf : List Defn} {ex : PySem.W.Frag → Bool} {w : World} {h : Heap} (e : obsXQ n fa fn ts tf ex h.get? = valX fn ts w) : SaysX fa fn ts tf ex w h (frT h.get? (asC h.get? n)) := by
  have e1 : obsT fa fn ts (frT h.get? (asC h.get? n)) = valT fn ts w := congrArg (fun z : AlX => z.1) e
  have e2 : (ex (frT h.get? (asC h.get? n)) && tabsB h.get? tf (frT h.get? (asC h.get? n))) = true := congrArg (fun z : AlX => z.2) e
  obtain ⟨h1, h2⟩ := ba e2
  have key : ∀ p ∈ tf, PySem.W.codeHdIn (frT h.get? (asC h.get? n)) (cT (frT h.get? (asC h.get? n)) p).1 (cT (frT h.get? (asC h.get? n)) p).2 = true ∧ ∃ o, h.get? (cT (frT h.get? (asC h.get? n)) p).2 = some o ∧ emptyTab o = true := fun p hp => by
    obtain ⟨h3, h4⟩ := ba (List.all_eq_true.mp h2 p hp)
    refine ⟨h3, ?_⟩
    cases q : h.get? (cT (frT h.get? (asC h.get? n)) p).2 with
    | none => rw [q] at h4; cases h4
    | some o => rw [q] at h4; exact ⟨o, rfl, h4⟩
  refine ⟨e1, h1, fun p hp => (key p hp).1, fun p hp => ?_, fun p hp => ?_⟩
  · obtain ⟨_, o, q, z⟩ := key p hp
    exact frT_none q z
  · obtain ⟨_, o, q, z⟩ := key p hp
    rw [q, emptyTab_eq z]
structure SaysQ (fa : List Fa) (fn : List DefD) (ts : List Tab) (tf : List Defn) (ex : PySem.W.Frag → Bool) (pr : List PrD) (qr : List QrD) (w : World) (h : Heap) (K : PySem.W.Frag) : Prop where
  x : SaysP fa fn ts tf ex pr w h K
  q : (qr.map fun d => fnC K d.cls) = qr.map QrD.val
theorem SaysQ.get {fa : List Fa} {fn : List DefD} {ts : List Tab} {tf : List Defn} {ex : PySem.W.Frag → Bool} {pr : List PrD} {qr : List QrD} {w : World} {h : Heap} {K : PySem.W.Frag} (c : SaysQ fa fn ts tf ex pr qr w h K) (i : Nat) {d : QrD} (e : qr[i]? = some d) : fnC K d.cls = d.val := by
  have z := congrArg (fun l => l[i]?) c.q
  simp only [List.getElem?_map, e, Option.map_some, Option.some.injEq] at z
  exact z
abbrev AlQ : Type := (AlX × List FnW) × List FnCW
def obsQ (n : Nat) (fa : List Fa) (fn : List DefD) (ts : List Tab) (tf : List Defn) (ex : PySem.W.Frag → Bool) (pr : List PrD) (qr : List QrD) (g : Addr → Option Obj) : AlQ := ((obsXQ n fa fn ts tf ex g, pr.map fun d => fnP (frT g (asC g n)) d.at_), qr.map fun d => fnC (frT g (asC g n)) d.cls)
def hookQ (n : Nat) (fa : List Fa) (fn : List DefD) (ts : List Tab) (tf : List Defn) (ex : PySem.W.Frag → Bool) (pr : List PrD) (qr : List QrD) : PySem.W.Hook where
  α := AlQ
  obs := fun s => obsQ n fa fn ts tf ex pr qr s.heap.get?
  val := fun w => ((valX fn ts w, pr.map PrD.val), qr.map QrD.val)
  says := fun w h => ∃ K : PySem.W.Frag, K.In h ∧ SaysQ fa fn ts tf ex pr qr w h K
  of := fun w s e => ⟨_, frT_in, ⟨⟨saysXQ_of (congrArg (fun z : AlQ => z.1.1) e), congrArg (fun z : AlQ => z.1.2) e⟩, congrArg (fun z : AlQ => z.2) e⟩⟩
  keeps := fun _ _ _ ⟨K, hK, c⟩ k => ⟨K, PySem.W.Frag.In.keeps hK k, ⟨⟨⟨c.x.x.t, c.x.x.more, c.x.x.hd, c.x.x.out, fun p hp => k _ _ (c.x.x.empty p hp)⟩, c.x.p⟩, c.q⟩⟩
theorem obsQ_eq {n : Nat} {fa : List Fa} {fn : List DefD} {ts : List Tab} {tf : List Defn} {ex : PySem.W.Frag → Bool} {pr : List PrD} {qr : List QrD} {g : Addr → Option Obj} {s : Shared} (h : ∀ a, g a = s.heap.get? a) : obsQ n fa fn ts tf ex pr qr g = (hookQ n fa fn ts tf ex pr qr).obs s := by
  have e : g = s.heap.get? := funext h
  rw [e]
  rfl
theorem clsAt_eq {mg : Str → Option Value} {x : Str} {a : Addr} (h : mg x = some (.ref a)) : clsAt mg x = a := by
  unfold clsAt
  rw [h]
end L3

set_option Elab.async false
set_option linter.all false
set_option maxRecDepth 100000
set_option maxHeartbeats 2000000
/-! Operators of own classes: binary, in place, unary, in, [], len, calls; star parameters. -/
namespace PySem.W
open PySem PySem.Calls PyProof.Rows
section
variable {prog : Program} {w : World} {M : Model} {A : Around} {E : Value → Shared → Prop} {s : Shared} {K : Frag} {x C f : Addr} {ox : Obj} {od : Option Obj} {nm T : String}
/-- an own object op a value of a built-in type, by the own method -/
theorem own_binT {op : Operator} {b : Value} {fo ro rc : Option Value} {Q : Value → Shared → Prop} (X : K.In s.heap) (I : InstAt s.heap x ox C od) (hb : Looks (model prog w) s.heap (typeOf b) (.type T)) (hc : selfFirst K C = true)
    (hs : findIn K (.ref C) (PySem.dunder op.info.2) = some (some (.ref f))) (hf : isFn K (.ref f) = true) (hr : findIn K (.ref C) (dunderR op.info.2) = some rc) (hp : rc = none ∨ ∃ g : Addr, rc = some (.ref g))
    (h1 : findIn K (.type T) (PySem.dunder op.info.2) = some fo) (h2 : findIn K (.type T) (dunderR op.info.2) = some ro) (hsub : subIn K (.type T) (.ref C) = some false)
    (h : wpAny (model prog w) A (call (.ref f) [.ref x, b]) (CmpBack Q) E s) : wpAny (model prog w) A (binaryOp op (.ref x) b) Q E s := by
  obtain ⟨cd, rest, hcd, hm⟩ := ksp_first hc
  rcases hi : op.info with ⟨sym, nm'⟩
  rw [hi] at hs hr h1 h2
  dsimp only at hs hr h1 h2
  have one := ksp_try X I hs hf h
  obtain ⟨hh, g, d, tt, os⟩ := s
  have L1 : Looks (model prog w) hh (typeOf (.ref x)) (.ref C) := I.type
  have L2 : Looks (model prog w) hh (typeOf b) (.type T) := hb
  have L3 : Looks (model prog w) hh (fillsNumberSlot (.ref C) nm') true := fills_K X hcd hm hs
  have L4 : Looks (model prog w) hh (fillsNumberSlot (.type T) nm') ((fo.isSome && !isSeqSlot fo) || (ro.isSome && !isSeqSlot ro)) := ksp_fillsT X h1 h2
  have L5 : Looks (model prog w) hh (isSubtype (.type T) (.ref C)) false := looks_subIn X hsub
  have L6 : Looks (model prog w) hh (numberSlotInPython (.ref C) nm') true := ksp_inPy X hs hr hp
  have L7 : Looks (model prog w) hh (numberSlotInPython (.type T) nm') false := Looks.of_pure rfl
  have L8 : Looks (model prog w) hh (typeLookup (.type T) (dunderR nm')) ro := looks_findIn X h2
  generalize ((fo.isSome && !isSeqSlot fo) || (ro.isSome && !isSeqSlot ro)) = right at L4
  have hne : (Value.ref C == Value.type T) = false := Bool.eq_false_iff.mpr fun q => by cases beq_iff_eq.mp q
  simp only [binaryOp, hi]
  refine wpAny_holding (wpAny_bind ?_)
  unfold binaryOp1
  refine wpAny_bind (L1.at (wpAny_bind (L2.at (wpAny_bind (L3.at ?_)))))
  simp only [hne, Bool.false_eq_true, if_false]
  cases right with
  | false =>
    ksp_lk
    refine wpAny_mono one (fun r s' hr' => ?_) fun _ _ e => e
    obtain ⟨v, rfl, hq⟩ := hr'
    ksp_lk
    exact hq
  | true =>
    ksp_lk
    refine wpAny_mono one (fun r s' hr' => ?_) fun _ _ e => e
    obtain ⟨v, rfl, hq⟩ := hr'
    ksp_lk
    exact hq
end
section
variable {prog : Program} {w : World} {A : Around} {E : Value → Shared → Prop} {s : Shared} {K : Frag} {x C f : Addr} {ox : Obj} {od : Option Obj}
theorem bool_own {Q : Value → Shared → Prop} (X : K.In s.heap) (I : InstAt s.heap x ox C od) (hs : findIn K (.ref C) "__bool__" = some (some (.ref f))) (hf : isFn K (.ref f) = true)
    (h : wpAny (model prog w) A.in1.in1 (call (.ref f) [.ref x]) (BoolBack fun b s' => Q (.bool b) s') E s) : wpAny (model prog w) A (call (.type "bool") [.ref x]) Q E s := by
  refine callType_codes (T := "bool") (Bi := Builtin.«object.__init__») (Q₁ := fun r s₁ => ∃ b, r = Value.bool b ∧ Q r s₁) PySem.F.called_bool (PySem.F.typeCall_bool_1 _) PySem.F.entry_object_init ?_ ?_
  · refine codeAny_of_tree ?_
    show wpAny _ A.in1.in1 (do checkBuiltinCall "bool.__new__" ⟨[.type "bool", .ref x], []⟩; again (.builtin "bool.__new__" ⟨[.type "bool", .ref x], []⟩)) _ _ s
    refine wpAny_bind (wpAny_of_eq (PySem.F.newCall_bool_1 _) (wpAny_pure ⟨plainId_quiet (by decide +kernel) _, codeAny_builtin PySem.F.entry_bool_new ?_⟩))
    rw [Around.under_plainId (by decide +kernel) _]
    unfold Builtin.«bool.__new__»
    refine wpAny_bind (wpAny_of_eq (a := true) (by first | rfl | kernel_rfl) ?_)
    refine PySem.W.KFB.if_not rfl ?_
    refine wpAny_bind (wpAny_of_eq (a := true) PySem.F.conv_sub_bool ?_)
    refine PySem.W.KFB.if_not rfl ?_
    refine wpAny_bind (m := someArgs "bool" 0 1 _) (wpAny_of_eq (a := [Value.ref x]) (by first | rfl | kernel_rfl) ?_)
    dsimp only
    refine wpAny_bind ?_
    unfold truthy
    refine wpAny_bind (m := callSpecial? (.ref x) (Str.ofString "__bool__")) (special_fn X I hs (beq_iff_eq.mp hf) (wpAny_mono h (fun r s' hr => ?_) fun _ _ y => y))
    cases r <;> first | exact hr.elim | skip
    exact wpAny_pure (wpAny_pure ⟨_, rfl, hr⟩)
  · rintro obj s₁ ⟨b, rfl, hq⟩
    have hT : s₁.TypeIs (.bool b) "bool" := by first | rfl | exact typeIs_bool _ _
    exact ⟨hT, PySem.F.args_object_init_2 _ _, object_init_meets PySem.F.called_bool.init.lookup PySem.F.called_bool.made (by decide) prog w A.in1 _ s₁ ⟨hT, rfl, hq⟩⟩
end
section
variable {prog : Program} {w : World} {A : Around} {E : Value → Shared → Prop} {s : Shared} {K : Frag} {x C f : Addr} {ox : Obj} {od : Option Obj} {b : Value}
/-- x != b, by the own __eq__ -/
theorem ne_own {Q : Value → Shared → Prop} (hu : A.units + 1 < cLine) (X : K.In s.heap) (I : InstAt s.heap x ox C od) (hb : Looks (model prog w) s.heap (typeOf b) (.ref C)) (hn : findIn K (.ref C) "__ne__" = some (some (.builtin "object.__ne__")))
    (hs : findIn K (.ref C) "__eq__" = some (some (.ref f))) (hf : isFn K (.ref f) = true) (hm : mroIn K C (.type "object") = some true)
    (h : wpAny (model prog w) A.in1 (call (.ref f) [.ref x, b]) (fun v s' => ∃ k, v = .bool k ∧ Q (.bool (!k)) s') E s) : wpAny (model prog w) A (richCompare .NotEq (.ref x) b) Q E s := by
  have sub : Looks (model prog w) s.heap (isInstance (.ref x) (.type "object")) true := I.type.andThen (looks_mroIn X hm)
  have body : wpAny (model prog w) A (call (.builtin "object.__ne__") [.ref x, b]) (fun v s' => ∃ k, v = .bool (!k) ∧ Q (.bool (!k)) s') E s := by
    refine wpAny_call (codeAny_call_builtin PySem.F.cmp_object.ne.plain PySem.F.cmpEntry_ne ?_)
    refine @check_slot (model prog w) _ _ s "object.__ne__" "object" "__ne__" (.ref x) [b] [] _ PySem.F.cmpKind_ne PySem.F.cmpSplit_ne sub (PySem.F.cmpArgs_ne _ _) ?_
    unfold Builtin.«object.__ne__»
    refine wpAny_bind (wpAny_of_eq (a := ((Value.ref x : Value), [b])) (by first | rfl | (simp only [slotArgs]; rfl)) ?_)
    dsimp only
    refine wpAny_bind (wpAny_cRoomFor (A := A.in1) hu ?_)
    refine wpAny_bind (m := callSpecialIfBound? (.ref x) (Str.ofString "__eq__") [b]) (ifBound_K X I hs hf (wpAny_mono h (fun v s' hv => ?_) fun _ _ e => e))
    obtain ⟨k, rfl, q⟩ := hv
    dsimp only
    refine wpAny_bind (m := truthy (.bool k)) (wpAny_truthy_bool ?_)
    exact wpAny_pure ⟨k, rfl, q⟩
  have one : wpAny (model prog w) A (tryCompare (.ref x) "__ne__" b) (fun r s' => ∃ v, r = some v ∧ Q v s') E s := by
    unfold tryCompare
    refine wpAny_bind ?_
    simp only [callSpecialIfBound?, bindSpecialIfBound?]
    refine wpAny_holding (wpAny_bind (wpAny_bind (wpAny_bind (I.type.here ((looks_findIn X hn).here ?_)))))
    simp only [PySem.F.cmp_object.ne.bind]
    refine wpAny_bind (wpAny_askSetting (wpAny_ite ?_))
    have fin : wpAny (model prog w) A (call (.builtin "object.__ne__") ([.ref x] ++ [b]) >>= fun v => pure (some v)) (fun r s' => ∃ k, r = some (.bool (!k)) ∧ Q (.bool (!k)) s') E s :=
      wpAny_bind (wpAny_mono body (fun v s' h' => by obtain ⟨k, rfl, q⟩ := h'; exact wpAny_pure ⟨k, rfl, q⟩) fun _ _ h' => h')
    split
    · exact wpAny_bind (wpAny_pure (wpAny_pure (wpAny_mono fin (fun r s' h' => by obtain ⟨k, rfl, q⟩ := h'; exact wpAny_pure ⟨_, rfl, q⟩) fun _ _ h' => h')))
    · exact wpAny_tryCatch (wpAny_bind (wpAny_pure (wpAny_pure (wpAny_mono fin (fun r s' h' => by obtain ⟨k, rfl, q⟩ := h'; exact wpAny_pure ⟨_, rfl, q⟩) fun _ _ h' => h'))))
  unfold richCompare
  simp only [oneThing_ref]
  refine wpAny_holding (wpAny_bind (wpAny_cRoomFor (Nat.lt_of_succ_lt hu) ?_))
  rw [cmpInfo_NotEq]
  dsimp only
  refine wpAny_bind (I.type.here (wpAny_bind (hb.here ?_)))
  rw [show (Value.ref C != Value.ref C) = false from by simp]
  simp only [Bool.false_eq_true, if_false]
  refine wpAny_bind (wpAny_pure ?_)
  simp only [Bool.false_eq_true, if_false]
  refine wpAny_bind (wpAny_mono one (fun r s' z => ?_) fun _ _ e => e)
  obtain ⟨v, rfl, hq⟩ := z
  exact wpAny_pure hq
end
end PySem.W
namespace Mi
open PySem
/-- x op y, x an object of the class c, y plain data: its method g -/
def eBinM (c : Str) (g : GF) (f e : EF) : EF := fun ρ μ => (f ρ μ).bind fun w μ1 => (e ρ μ1).bind fun u μ2 => match w, u with
  | .m k, .d d => (match mins μ2 k with
    | some (c', _) => if c' = c then g [.m k, .d d] μ2 else .no
    | none => .no)
  | _, _ => .no
/-- ~x -/
def eUnM (c : Str) (g : GF) (f : EF) : EF := fun ρ μ => (f ρ μ).bind fun w μ1 => match w with
  | .m k => (match mins μ1 k with
    | some (c', _) => if c' = c then g [.m k] μ1 else .no
    | none => .no)
  | _ => .no
/-- x(..), x an object -/
def eCalM (c : Str) (g : GF) (f : EF) (a : AF) : EF := fun ρ μ => (f ρ μ).bind fun w μ1 => match w with
  | .m k => (a ρ μ1).bind fun ws μ2 => (match mins μ2 k with
    | some (c', _) => if c' = c then g (.m k :: ws) μ2 else .no
    | none => .no)
  | _ => .no
/-- y in x: a truth value, that may be turned -/
def eInM (c : Str) (g : GF) (neg : Bool) (e f : EF) : EF := fun ρ μ => (e ρ μ).bind fun u μ1 => (f ρ μ1).bind fun w μ2 => match w, u with
  | .m k, .d d => (match mins μ2 k with
    | some (c', _) => if c' = c then (g [.m k, .d d] μ2).bind fun r μ3 => (match r with
      | .d (.bool b) => .ok (.d (.bool (if neg then !b else b))) μ3
      | _ => .no) else .no
    | none => .no)
  | _, _ => .no
/-- len(x) -/
def eLenM (c : Str) (g : GF) (f : EF) : EF := fun ρ μ => (f ρ μ).bind fun w μ1 => match w with
  | .m k => (match mins μ1 k with
    | some (c', _) => if c' = c then (g [.m k] μ1).bind fun r μ2 => (match r with
      | .d (.int n) => if 0 ≤ n ∧ n < 1000000 then .ok (.d (.int n)) μ2 else .no
      | _ => .no) else .no
    | none => .no)
  | _ => .no
/-- isinstance(x, c) for an own class -/
def eIsO (c : Str) (f : EF) : EF := fun ρ μ => (f ρ μ).bind fun w μ1 => match w with
  | .m k => (match mins μ1 k with
    | some (c', _) => if c' = c then .ok (.d (.bool true)) μ1 else .no
    | none => .no)
  | .d _ => .ok (.d (.bool false)) μ1
  | _ => .no
/-- bool(x) -/
def eBoolM (c : Str) (g : GF) (f : EF) : EF := eTruM c g f
/-- x == y, x an object of the class c -/
def eEqM (c : Str) (g : GF) (f e : EF) : EF := fun ρ μ => (f ρ μ).bind fun w μ1 => (e ρ μ1).bind fun u μ2 => match w with
  | .m k => (match mins μ2 k with
    | some (c', _) => if c' = c then (match u with
      | .d d => g [.m k, .d d] μ2
      | .m k2 => (match mins μ2 k2 with
        | some (c2, _) => if c2 = c then g [.m k, .m k2] μ2 else .no
        | none => .no)
      | _ => .no) else .no
    | none => .no)
  | _ => .no
/-- x != y, both objects of the class c -/
def eNeM (c : Str) (g : GF) (f e : EF) : EF := fun ρ μ => (f ρ μ).bind fun w μ1 => (e ρ μ1).bind fun u μ2 => match w, u with
  | .m k, .m k2 => (match mins μ2 k, mins μ2 k2 with
    | some (c1, _), some (c2, _) => if c1 = c ∧ c2 = c then (g [.m k, .m k2] μ2).bind fun r μ3 => (match r with
      | .d (.bool b) => .ok (.d (.bool (!b))) μ3
      | _ => .no) else .no
    | _, _ => .no)
  | _, _ => .no
/-- c(..), __init__ with a star parameter -/
def eNewS (c : Str) (g : GF) (a : AF) : EF := fun ρ μ => (a ρ μ).bind fun ws μ1 => match asDs ws with
  | some ds => (g [.m μ1.length, .d (.tuple ds)] (μ1 ++ [some (.ins c [])])).bind fun r μ2 => (match r with
    | .d .none => .ok (.m μ1.length) μ2
    | _ => .no)
  | none => .no
/-- c(*e) -/
def eNewStar (c : Str) (g : GF) (f : EF) : EF := fun ρ μ => (f ρ μ).bind fun w μ1 => match w with
  | .d (.tuple ds) => if ds.length ≤ LIM then (g [.m μ1.length, .d (.tuple ds)] (μ1 ++ [some (.ins c [])])).bind fun r μ2 => (match r with
    | .d .none => .ok (.m μ1.length) μ2
    | _ => .no) else .no
  | _ => .no
end Mi
namespace L3
open PySem PySem.Spec PyProof.Rows L2 Mi
/-- the type of plain data, as the kit's rules ask it -/
theorem tyX_of {K : PySem.W.Frag} {H : Hp} {M : Addr → Prop} {v : V} {d : PyData} (r : Rp K H M v d) : ∃ T : String, TyX K H v (.type T) ∧ T ∈ ["NoneType", "bool", "int", "str", "list", "tuple"] := by
  cases r with
  | non => exact ⟨_, .base .non, by decide⟩
  | bl b => exact ⟨_, .base (.bl b), by decide⟩
  | int i => exact ⟨_, .base (.int i), by decide⟩
  | str x => exact ⟨_, .base (.str x), by decide⟩
  | lst h _ _ =>
    rcases h with h | ⟨o, h⟩
    · exact ⟨_, .base (.lst h), by decide⟩
    · exact ⟨_, .base (.frz h), by decide⟩
  | tup h _ =>
    rcases h with (h | ⟨o, h⟩) | h
    · exact ⟨_, .base (.tup h), by decide⟩
    · exact ⟨_, .fTuple h, by decide⟩
    · obtain ⟨o, its, n, lk, hc, _⟩ := h
      exact ⟨_, .kTuple lk hc, by decide⟩
section
variable {X : Cx} {T : List (Addr × Str)} {E : XK} {k : Nat} {A : Addr} {m : Str} {g : GF}
/-- a method, run at some depth -/
theorem run_m {A' : Around} (hf : HasM X.prog X.w X.K X.mg X.base T k A m g) (hr : Room k A') (hA : A'.frames = X.A.frames) (hx : Passes (L2N.CX X.prog X.w) X E) : ∃ f, Meth X.K A m f ∧ ∀ (pins : List (Addr × Obj)) (s : Shared) (σ : L2.St) (H : Hp) (Q : VK) (us : List Value) (vs : List V) (ws : List W) (α : Al) (μ : Sto),
    Inv X pins σ H s → Vals vs us → Stor (CvX X T) H α μ → RpWs (CvX X T) H α μ vs ws → PQ (CvX X T) E Q H α μ (g ws μ) → wpAny (model X.prog X.w) A' (call (.ref f) us) (EP X pins σ Q) X.xe s := by
  obtain ⟨f, fd, ps, ds, dvs, dd, g0, h2, h3, h4, h5, h6, h7⟩ := hf.ex
  refine ⟨f, h2, fun pins s σ H Q us vs ws α μ I r S rs q => ?_⟩
  rw [h6] at q
  have h : spD (CvX X T) g0 (vs ++ dvs) H Q E := ⟨ws ++ dd.map W.d, α, μ, S, rs.append (RpAll.ws (h5 _ _)), q⟩
  have r2 : Vals (vs ++ dvs) (us ++ ds) := r.append h4
  have hl : (us ++ ds).length = ps.length := by rw [← r2.length]; exact h7.len _ _ _ _ h
  have e0 := I.env0
  have e1 : Env0 X.prog X.w X.K X.mg X.base A' X.stack s H := ⟨hA.trans e0.frames, e0.mod, e0.bs, e0.bsz, e0.funs, e0.frf, e0.hok, e0.bare⟩
  refine wpAny_call (codeAny_mono (h7.run A' X.stack s H ⟨us, []⟩ (us ++ ds) (vs ++ dvs) Q E hr e1 (h3 s us I.kIn hl) r2 h) fun r s' hq => ?_)
  cases r with
  | error e => exact hx pins σ H s e s' I hq
  | ok fl =>
    cases fl with
    | ret u => exact I.after hq
    | next => exact False.elim hq
    | brk => exact False.elim hq
    | cont => exact False.elim hq
theorem ins_at {H : Hp} {s : Shared} {pins : List (Addr × Obj)} {σ : L2.St} {p dx C : Addr} {fs : List (Str × V)} (I : Inv X pins σ H s) (h : H p = some (.ins C dx fs)) : ∃ ox od, PySem.W.InstAt s.heap p ox C od := by
  obtain ⟨mA, O, _⟩ := ins_get I.hok h
  obtain ⟨od, J, _⟩ := O.look
  exact ⟨_, _, J⟩
theorem cmp_back {pins : List (Addr × Obj)} {σ : L2.St} {Q : VK} {u : Value} {s : Shared} (h : EP X pins σ Q u s) : PySem.W.CmpBack (EP X pins σ Q) u s := by
  have h0 := h
  obtain ⟨v, H', I', rv, q⟩ := h
  cases u with
  | notImplemented =>
    cases v with
    | int i => obtain ⟨_, z⟩ := (show ∃ t, Value.notImplemented = Value.int i t from rv); cases z
    | str i => obtain ⟨_, z⟩ := (show ∃ t, Value.notImplemented = Value.str i t from rv); cases z
    | byt i => obtain ⟨_, z⟩ := (show ∃ t, Value.notImplemented = Value.bytes i t from rv); cases z
    | flt i => obtain ⟨_, z⟩ := (show ∃ t, Value.notImplemented = Value.float i t from rv); cases z
    | _ => cases rv
  | _ => exact h0
end
section
variable {X : Cx} {T : List (Addr × Str)} {E : XK} {j : Nat} {pos : Pos} {a b o : Expr} {f h : EF} {es : List Expr} {r : AF} {c : Str} {A : Addr} {gf : GF}
/-- an own object's operator -/
def rBinM (X : Cx) (T : List (Addr × Str)) (E : XK) (A : Addr) (gf : GF) : R2 := fun x y H Q => ∃ p dx fs k d α μ, x = .ref p ∧ H p = some (.ins A dx fs) ∧ Stor (CvX X T) H α μ ∧ RpW (CvX X T) H α μ x (.m k) ∧ RpW (CvX X T) H α μ y (.d d) ∧ PQ (CvX X T) E Q H α μ (gf [.m k, .d d] μ)
/-- what the table of a built-in type says of an operator's names -/
def opTys (nm : String) : Prop := ∀ (K : PySem.W.Frag) (T : String), T ∈ ["NoneType", "bool", "int", "str", "list", "tuple"] → (PySem.W.findIn K (.type T) (PySem.dunder nm)).isSome = true ∧ (PySem.W.findIn K (.type T) (dunderR nm)).isSome = true
theorem sub_own (K : PySem.W.Frag) (A : Addr) : ∀ T : String, T ∈ ["NoneType", "bool", "int", "str", "list", "tuple"] → PySem.W.subIn K (.type T) (.ref A) = some false := by
  intro T hT
  simp only [List.mem_cons, List.not_mem_nil, or_false] at hT
  rcases hT with rfl | rfl | rfl | rfl | rfl | rfl <;> kernel_rfl
theorem op_binM {k : Nat} {op : Operator} (ck : CK X E j) (sf : PySem.W.selfFirst X.K A = true) (hf : HasM X.prog X.w X.K X.mg X.base T k A (PySem.dunder op.info.2) gf) (hr : PySem.W.findIn X.K (.ref A) (dunderR op.info.2) = some none) (ho : opTys op.info.2) (hk : k ≤ j) : OpR X (binaryOp op) (rBinM X T E A gf) := by
  intro pins s σ H x y v u Q I rx ry h
  obtain ⟨p, dx, fs, k0, d, α, μ, rfl, hp, S, r1, r2, q⟩ := h
  obtain rfl : v = Value.ref p := rx
  obtain ⟨fm, hm, hrun⟩ := run_m hf (ck.room.mono hk) rfl ck.passes
  obtain ⟨ox, od, J⟩ := ins_at I hp
  obtain ⟨Ty, ty, hT⟩ := tyX_of r2
  obtain ⟨P, Z, hP, _⟩ := kit_of I ry ty
  obtain ⟨h1, h2⟩ := ho X.K Ty hT
  obtain ⟨fo, h1⟩ := Option.isSome_iff_exists.mp h1
  obtain ⟨ro, h2⟩ := Option.isSome_iff_exists.mp h2
  refine PySem.W.own_binT I.kIn J (Z.ty _ _ I.kIn hP) sf hm.at_ hm.fn hr (.inl rfl) h1 h2 (sub_own _ _ _ hT) ?_
  exact wpAny_mono (hrun pins s σ H Q [.ref p, u] [.ref p, y] _ α μ I (.cons rfl (.cons ry .nil)) S (.cons r1 (.cons r2 .nil)) q) (fun _ _ z => cmp_back z) fun _ _ z => z
theorem ins_cell {C : Cv} {H : Hp} {α : Al} {μ : Sto} (S : Stor C H α μ) {k : Nat} {c : Str} {fs : List (Str × PyData)} {v : V} {A : Addr} (oc : C.mg c = some (.ref A)) (e : mins μ k = some (c, fs)) (r : RpW C H α μ v (.m k)) : ∃ p dx gs, v = .ref p ∧ H p = some (.ins A dx gs) ∧ gs.map (·.1) = fs.map (·.1) ∧ RpAll C.K H (Own α μ) (gs.map (·.2)) (fs.map (·.2)) := by
  obtain ⟨p, hp, rfl⟩ := r
  obtain ⟨p', hp', B, dx, gs, hB, hx, hn, rr⟩ := S.cell k _ (mins_at e)
  rw [hp] at hp'
  cases hp'
  rw [oc] at hB
  cases hB
  exact ⟨p, dx, gs, rfl, hx, hn, rr⟩
theorem de_binM {k : Nat} {op : Operator} (ck : CK X E j) (oc : OwnC X.K X.mg c A) (sf : PySem.W.selfFirst X.K A = true) (hf : HasM X.prog X.w X.K X.mg X.base T k A (PySem.dunder op.info.2) gf) (hr : NoAttr X.K A (dunderR op.info.2)) (ho : opTys op.info.2) (ha : DE X T E a f) (hb : DE X T E b h) (hk : k ≤ j := by decide) :
    DE X T E (.BinOp a op b pos) (eBinM c gf f h) :=
  pe_imp (pe_op (op_binM ck sf hf hr ho hk) ha hb) fun σ H Q ⟨ρ, α, μ, S, sl, q⟩ => tD_bind S sl q fun v w H1 α1 μ1 st1 S1 sl1 r1 q1 => tD_bind S1 sl1 q1 fun u w2 H2 α2 μ2 st2 S2 sl2 r2 q2 => by
    have r1 := r1.step st2
    cases w with
    | m k0 =>
      cases w2 with
      | d d =>
        dsimp only at q2
        split at q2
        · rename_i c' fs e1
          split at q2
          · rename_i ec
            subst ec
            obtain ⟨p, dx, gs, rfl, hx, _, _⟩ := ins_cell S2 oc.at_ e1 r1
            exact ⟨p, dx, gs, k0, d, α2, μ2, rfl, hx, S2, r1, r2, q2⟩
          · exact (show False from q2).elim
        · exact (show False from q2).elim
      | _ => exact (show False from q2).elim
    | _ => exact (show False from q2).elim
/-! ### in place: x op= y, the name x -/
def sAugM (c : Str) (g : GF) (i : Nat) (e : EF) : SF := fun ρ μ => match ρ[i]? with
  | some (some (.m k)) => (e ρ μ).bindS fun u μ1 => (match u with
    | .d d => (match mins μ1 k with
      | some (c', _) => if c' = c then (g [.m k, .d d] μ1).bindS fun r μ2 => .nx (ρ.set i (some r)) μ2 else .no
      | none => .no)
    | _ => .no)
  | _ => .no
theorem ip_binM {k : Nat} {op : Operator} (ck : CK X E j) (sf : PySem.W.selfFirst X.K A = true) (hf : HasM X.prog X.w X.K X.mg X.base T k A (dunderI op.info.2) gf) (hk : k ≤ j) : InOp X op (rBinM X T E A gf) := by
  intro pins s σ H x y v u Q I rx ry h
  obtain ⟨p, dx, fs, k0, d, α, μ, rfl, hp, S, r1, r2, q⟩ := h
  obtain rfl : v = Value.ref p := rx
  obtain ⟨fm, hm, hrun⟩ := run_m hf (ck.room.mono hk) rfl ck.passes
  obtain ⟨ox, od, J⟩ := ins_at I hp
  obtain ⟨m0, hF⟩ := I.fr
  refine PySem.W.ksp_inplace hF I.ok.mod.kin J sf hm.at_ hm.fn ?_
  exact wpAny_mono (hrun pins s σ H Q [.ref p, u] [.ref p, y] _ α μ I (.cons rfl (.cons ry .nil)) S (.cons r1 (.cons r2 .nil)) q) (fun _ _ z => cmp_back z) fun _ _ z => z
theorem ds_augM (i : Nat) {k : Nat} {op : Operator} {x : Str} {p' : Pos} (ck : CK X E j) (oc : OwnC X.K X.mg c A) (sf : PySem.W.selfFirst X.K A = true) (hf : HasM X.prog X.w X.K X.mg X.base T k A (dunderI op.info.2) gf) (hb : DE X T E b h) (hk : k ≤ j := by decide) (hi : X.N[i]? = some x := by rfl)
    (hx : Loc X.env.scope x := by first | exact Or.inl rfl | exact Or.inr rfl) (hfn : X.fn x = true ∨ X.env.scope.names.lookup x = some .local := by first | exact Or.inl rfl | exact Or.inr rfl) : DS X T E (.AugAssign (.Name x p') op b pos) (sAugM c gf i h) :=
  ps_imp (ps_aug ck.nd hi hx hb (ip_binM ck sf hf hk) hfn) fun D σ H ⟨ρ, α, μ, S, sl, q⟩ => by
    unfold sAugM at q
    split at q
    · rename_i k0 e0
      obtain ⟨v, hv, r0⟩ := sl.at_ i _ e0
      refine ⟨v, hv, tD_bindS S sl q fun y w H1 α1 μ1 st1 S1 sl1 r1 q1 => ?_⟩
      have r0 := r0.step st1
      cases w with
      | d d =>
        dsimp only at q1
        split at q1
        · rename_i c' fs e1
          split at q1
          · rename_i ec
            subst ec
            obtain ⟨p, dx, gs, rfl, hx, _, _⟩ := ins_cell S1 oc.at_ e1 r0
            refine ⟨p, dx, gs, k0, d, α1, μ1, rfl, hx, S1, r0, r1, ?_⟩
            cases e2 : gf [.m k0, .d d] μ1 with
            | no => rw [e2] at q1; exact (show False from q1).elim
            | er x3 μ3 => rw [e2] at q1; exact q1
            | ok w3 μ3 =>
              rw [e2] at q1
              exact fun v3 H3 α3 st3 S3 r3 => QS.nx S3 ((sl1.step st3).set r3 i) (QS.step q1 st3)
          · exact (show False from q1).elim
        · exact (show False from q1).elim
      | _ => exact (show False from q1).elim
    · exact (show False from q).elim
/-! ### unary, calls, in, [], len, truth, isinstance -/
theorem un_invM {k : Nat} (ck : CK X E j) (hf : HasM X.prog X.w X.K X.mg X.base T k A "__invert__" gf) (hk : k ≤ j) : UnR X (unaryOp .Invert) (fun x H Q => ∃ p dx fs k0 α μ, x = .ref p ∧ H p = some (.ins A dx fs) ∧ Stor (CvX X T) H α μ ∧ RpW (CvX X T) H α μ x (.m k0) ∧ PQ (CvX X T) E Q H α μ (gf [.m k0] μ)) := by
  intro pins s σ H x v Q I rx h
  obtain ⟨p, dx, fs, k0, α, μ, rfl, hp, S, r1, q⟩ := h
  obtain rfl : v = Value.ref p := rx
  obtain ⟨fm, hm, hrun⟩ := run_m hf (ck.room.mono hk) rfl ck.passes
  obtain ⟨ox, od, J⟩ := ins_at I hp
  obtain ⟨m0, hF⟩ := I.fr
  exact PySem.W.ksp_inv hF I.ok.mod.kin J hm.at_ hm.fn (hrun pins s σ H Q [.ref p] [.ref p] _ α μ I (.cons rfl .nil) S (.cons r1 .nil) q)
theorem de_invM {k : Nat} (ck : CK X E j) (oc : OwnC X.K X.mg c A) (hf : HasM X.prog X.w X.K X.mg X.base T k A "__invert__" gf) (ha : DE X T E a f) (hk : k ≤ j := by decide) : DE X T E (.UnaryOp .Invert a pos) (eUnM c gf f) :=
  pe_imp (pe_un (un_invM ck hf hk) ha) fun σ H Q ⟨ρ, α, μ, S, sl, q⟩ => tD_bind S sl q fun v w H1 α1 μ1 st1 S1 sl1 r1 q1 => by
    cases w with
    | m k0 =>
      dsimp only at q1
      split at q1
      · rename_i c' fs e1
        split at q1
        · rename_i ec
          subst ec
          obtain ⟨p, dx, gs, rfl, hx, _, _⟩ := ins_cell S1 oc.at_ e1 r1
          exact ⟨p, dx, gs, k0, α1, μ1, rfl, hx, S1, r1, q1⟩
        · exact (show False from q1).elim
      · exact (show False from q1).elim
    | _ => exact (show False from q1).elim
/-- a method's promise by positions -/
theorem fnR_m {k : Nat} {m : Str} (hf : HasM X.prog X.w X.K X.mg X.base T k A m gf) : ∃ fm, Meth X.K A m fm ∧ FnR X.prog X.w X.K X.mg X.base (L2N.CX X.prog X.w) k fm (spD (CvX X T) gf) := by
  obtain ⟨fm, fd, ps, ds, dvs, dd, g0, h2, h3, h4, h5, h6, h7⟩ := hf.ex
  refine ⟨fm, h2, fun A' outer s H us vs Q E' hr e0 r h => ?_⟩
  obtain ⟨ws, α, μ, S, rs, q⟩ := h
  rw [h6] at q
  have h : spD (CvX X T) g0 (vs ++ dvs) H Q E' := ⟨ws ++ dd.map W.d, α, μ, S, rs.append (RpAll.ws (h5 _ _)), q⟩
  have KX : X.K.In s.heap := e0.mod.kin.keeps fun b o e => (e0.bs b o e).1
  have r2 : Vals (vs ++ dvs) (us ++ ds) := r.append h4
  exact h7.run A' outer s H ⟨us, []⟩ (us ++ ds) (vs ++ dvs) Q E' hr e0 (h3 s us KX (by rw [← r2.length]; exact h7.len _ _ _ _ h)) r2 h
theorem de_calM {k : Nat} {e : Expr} (ck : CK X E j) (oc : OwnC X.K X.mg c A) (hf : HasM X.prog X.w X.K X.mg X.base T k A "__call__" gf) (fi : ∀ g, PySem.W.findIn X.K (.ref A) "__call__" = some (some (.ref g)) → PySem.W.fnIn X.K g = true) (ha : DE X T E o f) (hr : DA X T E (e :: es) r) (hk : k ≤ j := by decide)
    (ht : eval (.Call o (e :: es) [] pos) X.env = (do callWith pos (← eval o X.env) [] (backTo pos (starEach (e :: es) X.env)) (backToKw pos (keywordEach [] X.env))) := by rfl)
    (he : starEach (e :: es) X.env = (false, eval e X.env) :: starEach es X.env := by rfl) (hpl : (backTo pos (starEach es X.env)).any (·.1) = false := by rfl) : DE X T E (.Call o (e :: es) [] pos) (eCalM c gf f r) := by
  obtain ⟨fm, hm, Fn⟩ := fnR_m hf
  refine pe_imp (StX.pe_callO ha ⟨hm.at_, hm.fn, fi _ hm.at_⟩ Fn (ck.room.mono hk) ck.passes hr.pa ht he hpl) fun σ H Q ⟨ρ, α, μ, S, sl, q⟩ => tD_bind S sl q fun v w H1 α1 μ1 st1 S1 sl1 r1 q1 => ?_
  cases w with
  | m k0 =>
    obtain ⟨p, hp, rfl⟩ := r1
    refine ⟨p, rfl, hr.read (C := CvX X T) (k := fun ws μ2 => match mins μ2 k0 with | some (c', _) => if c' = c then gf (.m k0 :: ws) μ2 else .no | none => .no) S1 sl1 q1 fun vs ws H2 α2 μ2 st S2 sl2 rs ln q2 => ?_⟩
    have r2 : RpW (CvX X T) H2 α2 μ2 (.ref p) (.m k0) := ⟨p, st.pre _ _ hp, rfl⟩
    split at q2
    · rename_i c' fs e1
      split at q2
      · rename_i ec
        subst ec
        obtain ⟨p', dx, gs, e3, hx, _, _⟩ := ins_cell S2 oc.at_ e1 r2
        cases e3
        exact ⟨.inr ⟨dx, gs, hx⟩, .m k0 :: ws, α2, μ2, S2, .cons r2 rs, q2⟩
      · exact (show False from q2).elim
    · exact (show False from q2).elim
  | _ => exact (show False from q1).elim
/-- x[i] -/
theorem ix_M {k : Nat} (ck : CK X E j) (hf : HasM X.prog X.w X.K X.mg X.base T k A "__getitem__" gf) (fi : ∀ g, PySem.W.findIn X.K (.ref A) "__getitem__" = some (some (.ref g)) → PySem.W.fnIn X.K g = true) (hk : k + 1 ≤ j)
    (value slice : Expr) (pins : List (Addr × Obj)) (s : Shared) (σ : L2.St) (H : Hp) (x y : V) (v u : Value) (Q : VK) (I : Inv X pins σ H s) (rx : RelV x v) (ry : RelV y u) (h : rBinM X T E A gf x y H Q) (hsl : subscripted slice true v u = runValue (.builtin "lifetime.subscript" ⟨[v, u], []⟩)) : wpAny (model X.prog X.w) X.A (subscriptTail value slice v u) (EP X pins σ Q) X.xe s := by
  obtain ⟨p, dx, fs, k0, d, α, μ, rfl, hp, S, r1, r2, q⟩ := h
  obtain rfl : v = Value.ref p := rx
  obtain ⟨fm, hm, hrun⟩ := run_m hf (A' := X.A.in1) (ck.room.mono hk).in1 rfl ck.passes
  obtain ⟨ox, od, J⟩ := ins_at I hp
  obtain ⟨m0, hF⟩ := I.fr
  exact PySem.W.sub_K hF I.ok.mod.kin J hm.at_ (fi _ hm.at_) hm.fn (hrun pins s σ H Q [.ref p, u] [.ref p, y] _ α μ I (.cons rfl (.cons ry .nil)) S (.cons r1 (.cons r2 .nil)) q) hsl
theorem de_ixM {k : Nat} (ck : CK X E j) (oc : OwnC X.K X.mg c A) (hf : HasM X.prog X.w X.K X.mg X.base T k A "__getitem__" gf) (fi : ∀ g, PySem.W.findIn X.K (.ref A) "__getitem__" = some (some (.ref g)) → PySem.W.fnIn X.K g = true) (ha : DE X T E a f) (hb : DE X T E b h) (hk : k + 1 ≤ j := by decide)
    (hs : ∀ v u, subscripted b true v u = runValue (.builtin "lifetime.subscript" ⟨[v, u], []⟩) := by intros; rfl) : DE X T E (.Subscript a b pos) (eBinM c gf f h) :=
  pe_imp (t := tOp (rBinM X T E A gf) (tD (CvX X T) E f) (tD (CvX X T) E h)) ⟨fun pins s σ H Q I q => Subscript_ (binT ha hb I q fun v u s2 x y H2 I2 rx ry q2 => ix_M ck hf fi hk a b pins s2 σ H2 x y v u Q I2 rx ry q2 (hs _ _))⟩ fun σ H Q ⟨ρ, α, μ, S, sl, q⟩ => tD_bind S sl q fun v w H1 α1 μ1 st1 S1 sl1 r1 q1 => tD_bind S1 sl1 q1 fun u w2 H2 α2 μ2 st2 S2 sl2 r2 q2 => by
    have r1 := r1.step st2
    cases w with
    | m k0 =>
      cases w2 with
      | d d =>
        dsimp only at q2
        split at q2
        · rename_i c' fs e1
          split at q2
          · rename_i ec
            subst ec
            obtain ⟨p, dx, gs, rfl, hx, _, _⟩ := ins_cell S2 oc.at_ e1 r1
            exact ⟨p, dx, gs, k0, d, α2, μ2, rfl, hx, S2, r1, r2, q2⟩
          · exact (show False from q2).elim
        · exact (show False from q2).elim
      | _ => exact (show False from q2).elim
    | _ => exact (show False from q2).elim
/-- a method's answer, a truth value, read -/
theorem PQ.boolk {C : Cv} {Q : VK} {H : Hp} {α : Al} {μ : Sto} {r : R W} {k : Bool → Sto → R W} (h : PQ C E Q H α μ (r.bind fun w μ1 => match w with | .d (.bool b) => k b μ1 | _ => .no)) : PQ C E (fun v H1 => ∃ b α1 μ1, v = .bl b ∧ Step H α μ H1 α1 μ1 ∧ Stor C H1 α1 μ1 ∧ PQ C E Q H1 α1 μ1 (k b μ1)) H α μ r := by
  cases r with
  | ok w μ1 =>
    intro v H1 α1 st S1 r1
    cases w with
    | d d =>
      cases d with
      | bool b =>
        cases r1
        have h1 : PQ C E Q H α μ (k b μ1) := h
        exact ⟨b, α1, μ1, rfl, st, S1, PQ.step h1 st⟩
      | _ => exact (show False from h).elim
    | _ => exact (show False from h).elim
  | er x μ1 => exact h
  | no => exact h
def rInM (X : Cx) (T : List (Addr × Str)) (E : XK) (A : Addr) (gf : GF) (neg : Bool) : R2 := fun x y H Q => ∃ p dx fs k d α μ, y = .ref p ∧ H p = some (.ins A dx fs) ∧ Stor (CvX X T) H α μ ∧ RpW (CvX X T) H α μ y (.m k) ∧ RpW (CvX X T) H α μ x (.d d) ∧ PQ (CvX X T) E (fun v H1 => ∃ b, v = .bl b ∧ Q (.bl (if neg then !b else b)) H1) H α μ (gf [.m k, .d d] μ)
theorem op_inM {k : Nat} (ck : CK X E j) (hf : HasM X.prog X.w X.K X.mg X.base T k A "__contains__" gf) (hk : k ≤ j) : OpR X (compareOp .In) (rInM X T E A gf false) := by
  intro pins s σ H x y v u Q I rx ry h
  obtain ⟨p, dx, fs, k0, d, α, μ, rfl, hp, S, r1, r2, q⟩ := h
  obtain rfl : u = Value.ref p := ry
  obtain ⟨fm, hm, hrun⟩ := run_m hf (ck.room.mono hk) rfl ck.passes
  obtain ⟨ox, od, J⟩ := ins_at I hp
  obtain ⟨m0, hF⟩ := I.fr
  refine PySem.W.in_K hF I.ok.mod.kin J hm.at_ hm.fn (wpAny_mono (hrun pins s σ H _ [.ref p, v] [.ref p, x] _ α μ I (.cons rfl (.cons rx .nil)) S (.cons r1 (.cons r2 .nil)) q) (fun r s' z => ?_) fun _ _ z => z)
  obtain ⟨z1, H', I', rz, b, rfl, q2⟩ := z
  cases rz
  exact wpAny_truthy_bool ⟨.bl b, H', I', rfl, q2⟩
theorem op_notInM {k : Nat} (ck : CK X E j) (hf : HasM X.prog X.w X.K X.mg X.base T k A "__contains__" gf) (hk : k ≤ j) : OpR X (compareOp .NotIn) (rInM X T E A gf true) := by
  intro pins s σ H x y v u Q I rx ry h
  obtain ⟨p, dx, fs, k0, d, α, μ, rfl, hp, S, r1, r2, q⟩ := h
  obtain rfl : u = Value.ref p := ry
  obtain ⟨fm, hm, hrun⟩ := run_m hf (ck.room.mono hk) rfl ck.passes
  obtain ⟨ox, od, J⟩ := ins_at I hp
  obtain ⟨m0, hF⟩ := I.fr
  refine PySem.W.notIn_K hF I.ok.mod.kin J hm.at_ hm.fn (wpAny_mono (hrun pins s σ H _ [.ref p, v] [.ref p, x] _ α μ I (.cons rfl (.cons rx .nil)) S (.cons r1 (.cons r2 .nil)) q) (fun r s' z => ?_) fun _ _ z => z)
  obtain ⟨z1, H', I', rz, b, rfl, q2⟩ := z
  cases rz
  exact wpAny_truthy_bool ⟨.bl (!b), H', I', rfl, q2⟩
theorem in_rd {neg : Bool} {op : CmpOp} (oc : OwnC X.K X.mg c A) {σ : L2.St} {H : Hp} {Q : VK} (q : tD (CvX X T) E (eInM c gf neg h f) σ H Q) : tOp (rInM X T E A gf neg) (tD (CvX X T) E h) (tD (CvX X T) E f) σ H Q := by
  obtain ⟨ρ, α, μ, S, sl, q⟩ := q
  refine tD_bind S sl q fun v w H1 α1 μ1 st1 S1 sl1 r1 q1 => tD_bind S1 sl1 q1 fun u w2 H2 α2 μ2 st2 S2 sl2 r2 q2 => ?_
  have r1 := r1.step st2
  cases w2 with
  | m k0 =>
    cases w with
    | d d =>
      dsimp only at q2
      split at q2
      · rename_i c' fs e1
        split at q2
        · rename_i ec
          subst ec
          obtain ⟨p, dx, gs, rfl, hx, _, _⟩ := ins_cell S2 oc.at_ e1 r2
          refine ⟨p, dx, gs, k0, d, α2, μ2, rfl, hx, S2, r2, r1, ?_⟩
          have q3 := PQ.boolk (k := fun b μ3 => .ok (.d (.bool (if neg then !b else b))) μ3) q2
          cases e2 : gf [.m k0, .d d] μ2 with
          | no => rw [e2] at q3; exact q3
          | er x3 μ3 => rw [e2] at q3; exact q3
          | ok w3 μ3 =>
            rw [e2] at q3
            intro v3 H3 α3 st3 S3 r3
            obtain ⟨b, α4, μ4, e4, st4, S4, q4⟩ := q3 v3 H3 α3 st3 S3 r3
            exact ⟨b, e4, PQ.bl S4 q4⟩
        · exact (show False from q2).elim
      · exact (show False from q2).elim
    | _ => exact (show False from q2).elim
  | _ => cases w <;> exact (show False from q2).elim
theorem de_inM {k : Nat} (ck : CK X E j) (oc : OwnC X.K X.mg c A) (hf : HasM X.prog X.w X.K X.mg X.base T k A "__contains__" gf) (ha : DE X T E a h) (hb : DE X T E b f) (hk : k ≤ j := by decide) (hm : behindInMarks .In b = false := by first | exact nomark _ (by decide) (by decide) | with_unfolding_all rfl) : DE X T E (.Compare a [.In] [b] pos) (eInM c gf false h f) :=
  pe_imp (pe_cmpR (op_inM ck hf hk) ha hb hm) fun σ H Q q => in_rd (op := .In) oc q
theorem de_notInM {k : Nat} (ck : CK X E j) (oc : OwnC X.K X.mg c A) (hf : HasM X.prog X.w X.K X.mg X.base T k A "__contains__" gf) (ha : DE X T E a h) (hb : DE X T E b f) (hk : k ≤ j := by decide) (hm : behindInMarks .NotIn b = false := by first | exact nomark _ (by decide) (by decide) | with_unfolding_all rfl) : DE X T E (.Compare a [.NotIn] [b] pos) (eInM c gf true h f) :=
  pe_imp (pe_cmpR (op_notInM ck hf hk) ha hb hm) fun σ H Q q => in_rd (op := .NotIn) oc q
theorem dt_inM {k : Nat} (ck : CK X E j) (oc : OwnC X.K X.mg c A) (hf : HasM X.prog X.w X.K X.mg X.base T k A "__contains__" gf) (ha : DE X T E a h) (hb : DE X T E b f) (hk : k ≤ j := by decide) (hm : behindInMarks .In b = false := by first | exact nomark _ (by decide) (by decide) | with_unfolding_all rfl) : DT X T E (.Compare a [.In] [b] pos) (eInM c gf false h f) :=
  pt_imp (pt_cmpR (op_inM ck hf hk) ha hb hm) fun σ H Q q => in_rd (op := .In) oc q
theorem dt_notInM {k : Nat} (ck : CK X E j) (oc : OwnC X.K X.mg c A) (hf : HasM X.prog X.w X.K X.mg X.base T k A "__contains__" gf) (ha : DE X T E a h) (hb : DE X T E b f) (hk : k ≤ j := by decide) (hm : behindInMarks .NotIn b = false := by first | exact nomark _ (by decide) (by decide) | with_unfolding_all rfl) : DT X T E (.Compare a [.NotIn] [b] pos) (eInM c gf true h f) :=
  pt_imp (pt_cmpR (op_notInM ck hf hk) ha hb hm) fun σ H Q q => in_rd (op := .NotIn) oc q
/-! ### len, bool -/
theorem call_lenM {k : Nat} (ck : CK X E j) (hf : HasM X.prog X.w X.K X.mg X.base T k A "__len__" gf) (hk : k + 1 ≤ j) : CallR X (.builtin "len") (fun xs H Q => ∃ p dx fs k0 α μ, xs = [V.ref p] ∧ H p = some (.ins A dx fs) ∧ Stor (CvX X T) H α μ ∧ RpW (CvX X T) H α μ (.ref p) (.m k0) ∧ PQ (CvX X T) E (fun v H1 => ∃ n : Int, v = .int n ∧ (0 ≤ n ∧ n < 1000000) ∧ Q (.int n) H1) H α μ (gf [.m k0] μ)) := by
  intro pins s σ H xs us Q I r h
  obtain ⟨p, dx, fs, k0, α, μ, rfl, hp, S, r1, q⟩ := h
  obtain ⟨u, rfl, rx⟩ := vals1 r
  obtain rfl : u = Value.ref p := rx
  obtain ⟨fm, hm, hrun⟩ := run_m hf (A' := X.A.in1) (ck.room.mono hk).in1 rfl ck.passes
  obtain ⟨ox, od, J⟩ := ins_at I hp
  obtain ⟨m0, hF⟩ := I.fr
  refine PySem.W.len_K hF I.ok.mod.kin J hm.at_ hm.fn (wpAny_mono (hrun pins s σ H _ [.ref p] [.ref p] _ α μ I (.cons rfl .nil) S (.cons r1 .nil) q) (fun w s' z => ?_) fun _ _ z => z)
  obtain ⟨z', H', I', rz, n, rfl, hn, q2⟩ := z
  obtain ⟨t, rfl⟩ := rz
  exact ⟨⟨hn.1, by omega⟩, ⟨.int n, H', I'.tok _, ⟨_, rfl⟩, q2⟩⟩
theorem de_lenM {k : Nat} {p : Pos} (ck : CK X E j) (hml : X.mg "len" = none) (oc : OwnC X.K X.mg c A) (hf : HasM X.prog X.w X.K X.mg X.base T k A "__len__" gf) (ha : DE X T E a f) (hk : k + 1 ≤ j := by decide) (hg : Gl X "len" := by rfl) (he : starEach [a] X.env = (false, eval a X.env) :: starEach [] X.env := by rfl) : DE X T E (.Call (.Name "len" p) [a] [] pos) (eLenM c gf f) :=
  pe_imp (pe_callB (call_lenM ck hf hk) hg hml PySem.boot_len (pa_cons ha pa_nil he) (he := he)) fun σ H Q ⟨ρ, α, μ, S, sl, q⟩ => tD_bind S sl q fun v w H1 α1 μ1 st1 S1 sl1 r1 q1 => by
    cases w with
    | m k0 =>
      dsimp only at q1
      split at q1
      · rename_i c' fs e1
        split at q1
        · rename_i ec
          subst ec
          obtain ⟨p, dx, gs, rfl, hx, _, _⟩ := ins_cell S1 oc.at_ e1 r1
          refine ⟨p, dx, gs, k0, α1, μ1, rfl, hx, S1, r1, ?_⟩
          cases e2 : gf [.m k0] μ1 with
          | no => rw [e2] at q1; exact q1
          | er x3 μ3 => rw [e2] at q1; exact q1
          | ok w3 μ3 =>
            rw [e2] at q1
            intro v3 H3 α3 st3 S3 r3
            cases w3 with
            | d d =>
              cases d with
              | int n =>
                have q1 : PQ (CvX X T) E Q H1 α1 μ1 (if 0 ≤ n ∧ n < 1000000 then .ok (.d (.int n)) μ3 else .no) := q1
                split at q1
                · rename_i hn
                  have q4 := PQ.step (r := R.ok (W.d (.int n)) μ3) q1 st3
                  have ev : v3 = .int n := by cases r3; rfl
                  exact ⟨n, ev, hn, PQ.ok (w := .d (.int n)) S3 (.int n) q4⟩
                · exact (show False from q1).elim
              | _ => exact (show False from q1).elim
            | _ => exact (show False from q1).elim
        · exact (show False from q1).elim
      · exact (show False from q1).elim
    | _ => exact (show False from q1).elim
theorem call_boolM {k : Nat} (ck : CK X E j) (hf : HasM X.prog X.w X.K X.mg X.base T k A "__bool__" gf) (hk : k + 2 ≤ j) : CallR X (.type "bool") (fun xs H Q => ∃ p dx fs k0 α μ, xs = [V.ref p] ∧ H p = some (.ins A dx fs) ∧ Stor (CvX X T) H α μ ∧ RpW (CvX X T) H α μ (.ref p) (.m k0) ∧ PQ (CvX X T) E (fun v H1 => ∃ b, v = .bl b ∧ Q (.bl b) H1) H α μ (gf [.m k0] μ)) := by
  intro pins s σ H xs us Q I r h
  obtain ⟨p, dx, fs, k0, α, μ, rfl, hp, S, r1, q⟩ := h
  obtain ⟨u, rfl, rx⟩ := vals1 r
  obtain rfl : u = Value.ref p := rx
  obtain ⟨fm, hm, hrun⟩ := run_m hf (A' := X.A.in1.in1) (show Room (k + 1) X.A.in1 from (ck.room.mono hk).in1).in1 rfl ck.passes
  obtain ⟨ox, od, J⟩ := ins_at I hp
  refine PySem.W.bool_own I.kIn J hm.at_ hm.fn (wpAny_mono (hrun pins s σ H _ [.ref p] [.ref p] _ α μ I (.cons rfl .nil) S (.cons r1 .nil) q) (fun w s' z => ?_) fun _ _ z => z)
  obtain ⟨z', H', I', rz, b, rfl, q2⟩ := z
  cases rz
  exact ⟨.bl b, H', I', rfl, q2⟩
theorem de_boolM {k : Nat} {p : Pos} (ck : CK X E j) (hml : X.mg "bool" = none) (oc : OwnC X.K X.mg c A) (hf : HasM X.prog X.w X.K X.mg X.base T k A "__bool__" gf) (ha : DE X T E a f) (hk : k + 2 ≤ j := by decide) (hg : Gl X "bool" := by rfl) (he : starEach [a] X.env = (false, eval a X.env) :: starEach [] X.env := by rfl) : DE X T E (.Call (.Name "bool" p) [a] [] pos) (eTruM c gf f) :=
  pe_imp (pe_callTy (call_boolM ck hf hk) hg hml PyProof.Rows.boot_bool (pa_cons ha pa_nil he) (he := he)) fun σ H Q ⟨ρ, α, μ, S, sl, q⟩ => tD_bind S sl q fun v w H1 α1 μ1 st1 S1 sl1 r1 q1 => by
    cases w with
    | m k0 =>
      dsimp only at q1
      split at q1
      · rename_i c' fs e1
        split at q1
        · rename_i ec
          subst ec
          obtain ⟨p, dx, gs, rfl, hx, _, _⟩ := ins_cell S1 oc.at_ e1 r1
          refine ⟨p, dx, gs, k0, α1, μ1, rfl, hx, S1, r1, ?_⟩
          have q3 := PQ.boolk (k := fun b μ3 => .ok (.d (.bool b)) μ3) q1
          cases e2 : gf [.m k0] μ1 with
          | no => rw [e2] at q3; exact q3
          | er x3 μ3 => rw [e2] at q3; exact q3
          | ok w3 μ3 =>
            rw [e2] at q3
            intro v3 H3 α3 st3 S3 r3
            obtain ⟨b, α4, μ4, e4, st4, S4, q4⟩ := q3 v3 H3 α3 st3 S3 r3
            exact ⟨b, e4, PQ.bl S4 q4⟩
        · exact (show False from q1).elim
      · exact (show False from q1).elim
    | _ => exact (show False from q1).elim
/-! ### isinstance of the own class, ==, != -/
structure IsoC (K : PySem.W.Frag) (A : Addr) : Prop where
  ha : PySem.W.findIn K (.ref A) "__class__" = some (some (.builtin "object.__class__"))
  hn : PySem.W.specialIn K (.builtin "object.__class__") "__get__" = some (some (.builtin "getset_descriptor.__get__"))
  htk : PySem.W.takesIn K (.builtin "object.__class__") = some true
  hm : PySem.W.mroIn K A (.type "object") = some true
  no : ∀ T : String, T ∈ ["NoneType", "bool", "int", "str", "list", "tuple"] → PySem.W.kitOne K (.type T) (.ref A) = some false
theorem de_isO {p : Pos} {ce : Expr} (ic : IsoC X.K A) (oc : OwnC X.K X.mg c A) (hml : X.mg "isinstance" = none) (ha : DE X T E a f) (hc : PE X ce (tC (.ref A))) (hg : Gl X "isinstance" := by rfl)
    (he : starEach [a, ce] X.env = (false, eval a X.env) :: starEach [ce] X.env := by rfl) (he2 : starEach [ce] X.env = (false, eval ce X.env) :: starEach [] X.env := by rfl) (hpl : (backTo pos (starEach [ce] X.env)).any (·.1) = false := by rfl) : DE X T E (.Call (.Name "isinstance" p) [a, ce] [] pos) (eIsO c f) :=
  pe_imp (pe_callB call_isi hg hml PyProof.Rows.boot_isinstance (pa_cons ha (pa_cons hc pa_nil he2) he) (he := he) (hpl := hpl)) fun σ H Q ⟨ρ, α, μ, S, sl, q⟩ => tD_bind S sl q fun v w H1 α1 μ1 st1 S1 sl1 r1 q1 => by
    cases w with
    | m k0 =>
      dsimp only at q1
      split at q1
      · rename_i c' fs e1
        split at q1
        · rename_i ec
          subst ec
          obtain ⟨p, dx, gs, rfl, hx, _, _⟩ := ins_cell S1 oc.at_ e1 r1
          exact ⟨.ref p, .ref A, .ref A, .ref A, true, rfl, .own A, .base (.ins hx oc.cls ic.ha ic.hn ic.htk ic.hm), by unfold PySem.W.kitOne; rw [if_pos (by simp)], PQ.bl S1 q1⟩
        · exact (show False from q1).elim
      · exact (show False from q1).elim
    | d d =>
      obtain ⟨Ty, ty, hT⟩ := tyX_of r1
      exact ⟨v, .ref A, _, .ref A, false, rfl, .own A, ty, ic.no _ hT, PQ.bl S1 q1⟩
    | _ => exact (show False from q1).elim
def rEqM (X : Cx) (T : List (Addr × Str)) (E : XK) (A : Addr) (gf : GF) : R2 := fun x y H Q => ∃ p dx fs k w α μ, x = .ref p ∧ H p = some (.ins A dx fs) ∧ Stor (CvX X T) H α μ ∧ RpW (CvX X T) H α μ x (.m k) ∧ RpW (CvX X T) H α μ y w ∧ ((∃ d, w = .d d) ∨ ∃ p2 dx2 fs2, y = .ref p2 ∧ H p2 = some (.ins A dx2 fs2)) ∧ PQ (CvX X T) E Q H α μ (gf [.m k, w] μ)
theorem op_eqM {k : Nat} (ck : CK X E j) (hf : HasM X.prog X.w X.K X.mg X.base T k A "__eq__" gf) (hk : k ≤ j) : OpR X (compareOp .Eq) (rEqM X T E A gf) := by
  intro pins s σ H x y v u Q I rx ry h
  obtain ⟨p, dx, fs, k0, w, α, μ, rfl, hp, S, r1, r2, hw, q⟩ := h
  obtain rfl : v = Value.ref p := rx
  obtain ⟨fm, hm, hrun⟩ := run_m hf (ck.room.mono hk) rfl ck.passes
  obtain ⟨ox, od, J⟩ := ins_at I hp
  obtain ⟨m0, hF⟩ := I.fr
  have hu : X.A.units < cLine := by have := ck.hu; omega
  have fin : wpAny (model X.prog X.w) X.A (call (.ref fm) [.ref p, u]) (PySem.W.CmpBack (EP X pins σ Q)) X.xe s := wpAny_mono (hrun pins s σ H Q [.ref p, u] [.ref p, y] _ α μ I (.cons rfl (.cons ry .nil)) S (.cons r1 (.cons r2 .nil)) q) (fun _ _ z => cmp_back z) fun _ _ z => z
  rcases hw with ⟨d, rfl⟩ | ⟨p2, dx2, fs2, rfl, hp2⟩
  · obtain ⟨Ty, ty, hT⟩ := tyX_of r2
    obtain ⟨P, Z, hP, _⟩ := kit_of I ry ty
    exact PySem.W.cmp_K (op := .Eq) (tb := .type Ty) hu hF I.ok.mod.kin J (Z.ty _ _ I.kIn hP) (by unfold PySem.W.notFirst; rw [sub_own _ _ _ hT]; simp) hm.at_ hm.fn fin
  · obtain rfl : u = Value.ref p2 := ry
    obtain ⟨ox2, od2, J2⟩ := ins_at I hp2
    exact PySem.W.cmp_K (op := .Eq) (tb := .ref A) hu hF I.ok.mod.kin J J2.type (by unfold PySem.W.notFirst; simp) hm.at_ hm.fn fin
theorem eq_rd (oc : OwnC X.K X.mg c A) {σ : L2.St} {H : Hp} {Q : VK} (q : tD (CvX X T) E (eEqM c gf f h) σ H Q) : tOp (rEqM X T E A gf) (tD (CvX X T) E f) (tD (CvX X T) E h) σ H Q := by
  obtain ⟨ρ, α, μ, S, sl, q⟩ := q
  refine tD_bind S sl q fun v w H1 α1 μ1 st1 S1 sl1 r1 q1 => tD_bind S1 sl1 q1 fun u w2 H2 α2 μ2 st2 S2 sl2 r2 q2 => ?_
  have r1 := r1.step st2
  cases w with
  | m k0 =>
    dsimp only at q2
    split at q2
    · rename_i c' fs e1
      split at q2
      · rename_i ec
        subst ec
        obtain ⟨p, dx, gs, rfl, hx, _, _⟩ := ins_cell S2 oc.at_ e1 r1
        cases w2 with
        | d d => exact ⟨p, dx, gs, k0, .d d, α2, μ2, rfl, hx, S2, r1, r2, .inl ⟨d, rfl⟩, q2⟩
        | m k2 =>
          dsimp only at q2
          split at q2
          · rename_i c2 fs2 e2
            split at q2
            · rename_i ec2
              subst ec2
              obtain ⟨p2, dx2, gs2, rfl, hx2, _, _⟩ := ins_cell S2 oc.at_ e2 r2
              exact ⟨p, dx, gs, k0, .m k2, α2, μ2, rfl, hx, S2, r1, r2, .inr ⟨p2, dx2, gs2, rfl, hx2⟩, q2⟩
            · exact (show False from q2).elim
          · exact (show False from q2).elim
        | _ => exact (show False from q2).elim
      · exact (show False from q2).elim
    · exact (show False from q2).elim
  | _ => exact (show False from q2).elim
theorem de_eqM {k : Nat} (ck : CK X E j) (oc : OwnC X.K X.mg c A) (hf : HasM X.prog X.w X.K X.mg X.base T k A "__eq__" gf) (ha : DE X T E a f) (hb : DE X T E b h) (hk : k ≤ j := by decide) (hm : behindInMarks .Eq b = false := by first | exact nomark _ (by decide) (by decide) | with_unfolding_all rfl) : DE X T E (.Compare a [.Eq] [b] pos) (eEqM c gf f h) :=
  pe_imp (pe_cmpR (op_eqM ck hf hk) ha hb hm) fun σ H Q q => eq_rd oc q
theorem dt_eqM {k : Nat} (ck : CK X E j) (oc : OwnC X.K X.mg c A) (hf : HasM X.prog X.w X.K X.mg X.base T k A "__eq__" gf) (ha : DE X T E a f) (hb : DE X T E b h) (hk : k ≤ j := by decide) (hm : behindInMarks .Eq b = false := by first | exact nomark _ (by decide) (by decide) | with_unfolding_all rfl) : DT X T E (.Compare a [.Eq] [b] pos) (eEqM c gf f h) :=
  pt_imp (pt_cmpR (op_eqM ck hf hk) ha hb hm) fun σ H Q q => eq_rd oc q
def rNeM (X : Cx) (T : List (Addr × Str)) (E : XK) (A : Addr) (gf : GF) : R2 := fun x y H Q => ∃ p dx fs p2 dx2 fs2 k k2 α μ, x = .ref p ∧ y = .ref p2 ∧ H p = some (.ins A dx fs) ∧ H p2 = some (.ins A dx2 fs2) ∧ Stor (CvX X T) H α μ ∧ RpW (CvX X T) H α μ x (.m k) ∧ RpW (CvX X T) H α μ y (.m k2) ∧ PQ (CvX X T) E (fun v H1 => ∃ b, v = .bl b ∧ Q (.bl (!b)) H1) H α μ (gf [.m k, .m k2] μ)
theorem op_neM {k : Nat} (ck : CK X E j) (ic : IsoC X.K A) (hne : PySem.W.findIn X.K (.ref A) "__ne__" = some (some (.builtin "object.__ne__"))) (hf : HasM X.prog X.w X.K X.mg X.base T k A "__eq__" gf) (hk : k + 1 ≤ j) : OpR X (compareOp .NotEq) (rNeM X T E A gf) := by
  intro pins s σ H x y v u Q I rx ry h
  obtain ⟨p, dx, fs, p2, dx2, fs2, k0, k2, α, μ, rfl, rfl, hp, hp2, S, r1, r2, q⟩ := h
  obtain rfl : v = Value.ref p := rx
  obtain rfl : u = Value.ref p2 := ry
  obtain ⟨fm, hm, hrun⟩ := run_m hf (A' := X.A.in1) (ck.room.mono hk).in1 rfl ck.passes
  obtain ⟨ox, od, J⟩ := ins_at I hp
  obtain ⟨ox2, od2, J2⟩ := ins_at I hp2
  have hu : X.A.units + 1 < cLine := by have := ck.hu; omega
  show wpAny _ _ (richCompare .NotEq (.ref p) (.ref p2)) _ _ _
  refine PySem.W.ne_own hu I.kIn J J2.type hne hm.at_ hm.fn ic.hm (wpAny_mono (hrun pins s σ H _ [.ref p, .ref p2] [.ref p, .ref p2] _ α μ I (.cons rfl (.cons rfl .nil)) S (.cons r1 (.cons r2 .nil)) q) (fun w s' z => ?_) fun _ _ z => z)
  obtain ⟨z', H', I', rz, b, rfl, q2⟩ := z
  cases rz
  exact ⟨b, rfl, .bl (!b), H', I', rfl, q2⟩
theorem ne_rd (oc : OwnC X.K X.mg c A) {σ : L2.St} {H : Hp} {Q : VK} (q : tD (CvX X T) E (eNeM c gf f h) σ H Q) : tOp (rNeM X T E A gf) (tD (CvX X T) E f) (tD (CvX X T) E h) σ H Q := by
  obtain ⟨ρ, α, μ, S, sl, q⟩ := q
  refine tD_bind S sl q fun v w H1 α1 μ1 st1 S1 sl1 r1 q1 => tD_bind S1 sl1 q1 fun u w2 H2 α2 μ2 st2 S2 sl2 r2 q2 => ?_
  have r1 := r1.step st2
  cases w with
  | m k0 =>
    cases w2 with
    | m k2 =>
      dsimp only at q2
      split at q2
      · rename_i c1 fs1 c2 fs2 e1 e2
        split at q2
        · rename_i ec
          obtain ⟨rfl, rfl⟩ := ec
          obtain ⟨p, dx, gs, rfl, hx, _, _⟩ := ins_cell S2 oc.at_ e1 r1
          obtain ⟨p2, dx2, gs2, rfl, hx2, _, _⟩ := ins_cell S2 oc.at_ e2 r2
          refine ⟨p, dx, gs, p2, dx2, gs2, k0, k2, α2, μ2, rfl, rfl, hx, hx2, S2, r1, r2, ?_⟩
          have q3 := PQ.boolk (k := fun b μ3 => .ok (.d (.bool (!b))) μ3) q2
          cases e2 : gf [.m k0, .m k2] μ2 with
          | no => rw [e2] at q3; exact q3
          | er x3 μ3 => rw [e2] at q3; exact q3
          | ok w3 μ3 =>
            rw [e2] at q3
            intro v3 H3 α3 st3 S3 r3
            obtain ⟨b, α4, μ4, e4, st4, S4, q4⟩ := q3 v3 H3 α3 st3 S3 r3
            exact ⟨b, e4, PQ.bl S4 q4⟩
        · exact (show False from q2).elim
      · exact (show False from q2).elim
    | _ => exact (show False from q2).elim
  | _ => exact (show False from q2).elim
theorem de_neM {k : Nat} (ck : CK X E j) (ic : IsoC X.K A) (hne : PySem.W.findIn X.K (.ref A) "__ne__" = some (some (.builtin "object.__ne__"))) (oc : OwnC X.K X.mg c A) (hf : HasM X.prog X.w X.K X.mg X.base T k A "__eq__" gf) (ha : DE X T E a f) (hb : DE X T E b h) (hk : k + 1 ≤ j := by decide) (hm : behindInMarks .NotEq b = false := by first | exact nomark _ (by decide) (by decide) | with_unfolding_all rfl) : DE X T E (.Compare a [.NotEq] [b] pos) (eNeM c gf f h) :=
  pe_imp (pe_cmpR (op_neM ck ic hne hf hk) ha hb hm) fun σ H Q q => ne_rd oc q
theorem dt_neM {k : Nat} (ck : CK X E j) (ic : IsoC X.K A) (hne : PySem.W.findIn X.K (.ref A) "__ne__" = some (some (.builtin "object.__ne__"))) (oc : OwnC X.K X.mg c A) (hf : HasM X.prog X.w X.K X.mg X.base T k A "__eq__" gf) (ha : DE X T E a f) (hb : DE X T E b h) (hk : k + 1 ≤ j := by decide) (hm : behindInMarks .NotEq b = false := by first | exact nomark _ (by decide) (by decide) | with_unfolding_all rfl) : DT X T E (.Compare a [.NotEq] [b] pos) (eNeM c gf f h) :=
  pt_imp (pt_cmpR (op_neM ck ic hne hf hk) ha hb hm) fun σ H Q q => ne_rd oc q
end
end L3

set_option Elab.async false
set_option linter.all false
set_option maxRecDepth 100000
set_option maxHeartbeats 2000000
/-! Own classes whose __init__ has a star parameter: made with arguments, with none, with *e. -/
namespace L3
open PySem PySem.Spec PyProof.Rows L2 Mi
theorem cxUpN {P : Program} {w : World} : StX.CXUp (L2N.CX P w) := by
  rintro outer s H s2 H2 E e s' un kp ho ⟨a, B, H', cls, d, ea, fl, hok, ub, na, os, ag, he⟩
  refine ⟨a, B, H', cls, d, ea, fl, hok, ⟨fun b o q n hb => ub.keep b o (kp b o q) (un.free b o q n (by simp)) hb, fun b o q hb => ub.slot b o (kp b o q) hb, fun b o q n => ub.free b o (kp b o q) (un.free b o q n (by simp)),
    fun b o q hb => ub.there b o (kp b o q) hb, fun b xs q => ub.tups b xs (un.tups b xs q), fun b o xs q => ub.frzs b o xs (un.frzs b o xs q), fun b ps q => ?_⟩, na, os.trans ho, ag, he⟩
  obtain ⟨m1, e1⟩ := un.tbls b ps q
  obtain ⟨m2, e2⟩ := ub.tbls b _ e1
  exact ⟨m1 ++ m2, by rw [e2, Array.append_assoc]⟩
/-- __init__(self, *v): its class, its binding -/
structure InitFactS (K : PySem.W.Frag) (A : Addr) (qual : Str) (st : Stmt) (p1 pv : Str) : Prop where
  ex : ∃ f fd dvs kws, FunD K "__init__" qual (defArgs st) (defBody st) (defScope st) dvs kws f fd ∧ Mk K A f ∧ ∀ us rest : List Value, us.length = [p1].length → bindArgs fd ⟨us ++ rest, []⟩ = (newTuple rest >>= fun t => pure ([p1].zip us ++ [(pv, t)]))
def spS (C : Cv) (g : GF) : Sp := fun vs H Q E => ∃ ws rest, vs = ws ++ rest ∧ ws.length = [("self" : Str)].length ∧ rest.length ≤ sizeLine ∧ ∀ p, H p = Option.none → spD C g (ws ++ [V.ref p]) (upd H p (.tup rest)) Q E
structure HasMkS (P : Program) (w : World) (K : PySem.W.Frag) (mg : Str → Option Value) (base : Heap) (T : List (Addr × Str)) (k : Nat) (A : Addr) (g : GF) : Prop where
  ex : ∃ f, Mk K A f ∧ FnR P w K mg base (L2N.CX P w) k f (spS ⟨K, mg, T⟩ g)
section
variable {P : Program} {w : World} {K : PySem.W.Frag} {mg : Str → Option Value} {base : Heap} {T : List (Addr × Str)}
theorem init_okS {A : Addr} {x p1 pv : Str} {st : Stmt} {N : List Str} {k : Nat} {F : SF} (d : InitFactS K A x st p1 pv) (S : FnScope N [p1, pv] (defScope st))
    (hbody : ∀ (f : Addr) (cdv : Value) (A : Around) (outer : List PySem.Env) (s : Shared) (H : Hp) (E : XK), CK (cxOf (L2N.CX P w) P w K mg base N x (defScope st) f cdv A outer s H E) E k →
      PassesOwn (model P w) (cxOf (L2N.CX P w) P w K mg base N x (defScope st) f cdv A outer s H E).A (cxOf (L2N.CX P w) P w K mg base N x (defScope st) f cdv A outer s H E).env (cxOf (L2N.CX P w) P w K mg base N x (defScope st) f cdv A outer s H E).xe →
      DSs (cxOf (L2N.CX P w) P w K mg base N x (defScope st) f cdv A outer s H E) T E (defBody st) F) : HasMkS P w K mg base T (k + 1) A (fnOf 2 N.length F) := by
  obtain ⟨f, fd, dvs, kws, Fu, hm, hb⟩ := d.ex
  obtain ⟨oc, od, dV, kV, doc, pm, an, cdv, ct, osl, rfl, lk, hcdi, _, _⟩ := Fu.ex
  refine ⟨f, hm, StX.fn_star (ps := [p1]) (pv := pv) (sp := spD ⟨K, mg, T⟩ (fnOf 2 N.length F)) lk hcdi S cxUpN hb fun A' outer s H vs Q E hr h => ?_⟩
  obtain ⟨ws, α, μ, St, rs, q⟩ := h
  have tk : L2N.Takes (cxOf (L2N.CX P w) P w K mg base N x (defScope st) f cdv A' outer s H E) (fun cls d _ H => E cls d H) := L2N.takes_of rfl rfl rfl rfl
  refine ⟨_, hbody f cdv A' outer s H E ⟨rfl, S.nd, hr, tk⟩ (passes_of rfl), ?_⟩
  unfold fnOf at q
  split at q
  · rename_i hl
    refine ⟨startE N.length ws, α, μ, St, ⟨?_, ?_⟩, fin_ok (D := { nx := fun _ H' => Q .non H', rt := Q }) St ⟨rfl, rfl⟩ q⟩
    · have e := rs.length
      simp only [startE, L2.start, List.length_append, List.length_map, List.length_replicate, e]
    · have e := rs.length
      have z := Sl.start rs (N.length - ws.length)
      unfold startE L2.start
      rw [e]
      exact z
  · exact q.elim
end
section
variable {X : Cx} {T : List (Addr × Str)} {E : XK} {j : Nat} {pos : Pos} {e : Expr} {es : List Expr} {f : EF} {r : AF} {c : Str} {A : Addr} {gf : GF}
/-- the making, behind the arguments -/
theorem mkS_rd {Q : VK} {H : Hp} {α : Al} {μ : Sto} {vs : List V} {ds : List PyData} (oc : X.mg c = some (.ref A)) (S : Stor (CvX X T) H α μ) (rs : RpAll X.K H (Own α μ) vs ds) (hl : vs.length ≤ sizeLine)
    (q : PQ (CvX X T) E Q H α μ ((gf [.m μ.length, .d (.tuple ds)] (μ ++ [some (.ins c [])])).bind fun r μ2 => match r with | .d .none => .ok (.m μ.length) μ2 | _ => .no)) :
    ∀ x dx, H x = Option.none → H dx = Option.none → dx ≠ x → spS (CvX X T) gf (V.ref x :: vs) (upd (upd H dx (.own x)) x (.ins A dx [])) (fun v H2 => v = .non ∧ Q (.ref x) H2) E := by
  intro x dx hx hd ne
  have st2 := step_make (A := A) S c hx hd ne
  have S2 := stor_make (c := c) (A := A) S oc hx hd ne
  refine ⟨[V.ref x], vs, rfl, rfl, hl, fun p np => ?_⟩
  obtain ⟨sm, rp⟩ := rp_newT np (rs.ext st2.ext)
  have st3 := Same.step S2 sm
  have S3 := S2.same sm
  have hx3 : RpW (CvX X T) (upd (upd (upd H dx (.own x)) x (.ins A dx [])) p (.tup vs)) (α.push x) (μ ++ [some (.ins c [])]) (.ref x) (.m μ.length) := by
    refine ⟨x, ?_, rfl⟩
    show (α.own ++ [x])[_]? = _
    rw [← S.len]
    simp
  refine ⟨[.m μ.length, .d (.tuple ds)], α.push x, μ ++ [some (.ins c [])], S3, (show RpWs (CvX X T) _ (α.push x) (μ ++ [some (.ins c [])]) [V.ref x, V.ref p] [.m μ.length, .d (.tuple ds)] from .cons hx3 (.cons rp .nil)), ?_⟩
  have q3 := PQ.step (q.step st2) st3
  cases e0 : gf [.m μ.length, .d (.tuple ds)] (μ ++ [some (.ins c [])]) with
  | ok w3 μ3 =>
    rw [e0] at q3
    intro v H' α' st4 S4 rv
    cases w3 with
    | d d =>
      cases d with
      | none =>
        have hv : v = .non := by cases rv; rfl
        exact ⟨hv, (show PQ (CvX X T) E Q _ _ _ (.ok (.m μ.length) μ3) from q3) (.ref x) H' α' st4 S4 (hx3.step st4)⟩
      | _ => exact (show False from q3).elim
    | _ => exact (show False from q3).elim
  | er x3 μ3 => rw [e0] at q3; exact q3
  | no => rw [e0] at q3; exact q3
theorem de_newS {k : Nat} {p : Pos} (ck : CK X E j) (hc : X.mg c = some (.ref A)) (hf : HasMkS X.prog X.w X.K X.mg X.base T k A gf) (hr : DA X T E (e :: es) r) (hk : k + 1 ≤ j := by decide) (hl : (e :: es).length ≤ 1000 := by decide) (hg : Gl X c := by rfl) (hdb : (c == ("__debug__" : Str)) = false := by decide)
    (he : starEach (e :: es) X.env = (false, eval e X.env) :: starEach es X.env := by rfl) (hpl : (backTo pos (starEach es X.env)).any (·.1) = false := by rfl) : DE X T E (.Call (.Name c p) (e :: es) [] pos) (eNewS c gf r) := by
  obtain ⟨fm, hm, Fn⟩ := hf.ex
  refine pe_imp (StX.pe_makeR hm Fn (ck.room.mono hk) hg hc ck.passes hr.pa hdb he hpl) fun σ H Q ⟨ρ, α, μ, S, sl, q⟩ => ?_
  refine hr.read (C := CvX X T) S sl q fun vs ws H1 α1 μ1 st S1 sl1 rs ln q1 => ?_
  split at q1
  · rename_i ds e1
    exact mkS_rd hc S1 (rs.asDs e1) (by rw [rs.length, ln]; exact Nat.le_trans hl (by decide)) q1
  · exact (show False from q1).elim
theorem de_newS0 {k : Nat} {p : Pos} (ck : CK X E j) (hc : X.mg c = some (.ref A)) (hf : HasMkS X.prog X.w X.K X.mg X.base T k A gf) (hk : k + 1 ≤ j := by decide) (hg : Gl X c := by rfl) (hdb : (c == ("__debug__" : Str)) = false := by decide) : DE X T E (.Call (.Name c p) [] [] pos) (eNewS c gf aNil) := by
  obtain ⟨fm, hm, Fn⟩ := hf.ex
  refine ⟨fun pins s σ H Q I ⟨ρ, α, μ, S, sl, q⟩ => ?_⟩
  refine wpAny_Call_Name_kw (ld_glob I hg hc ?_ hdb)
  exact PySem.W.callWith_K0 I.kIn hm.kp (StX.run_makeR (us := []) (vs := []) hm Fn (ck.room.mono hk) ck.passes I .nil (mkS_rd (ds := []) hc S .nil (Nat.zero_le _) q))
theorem de_newStar {k : Nat} {p sp_ : Pos} (ck : CK X E j) (hc : X.mg c = some (.ref A)) (hf : HasMkS X.prog X.w X.K X.mg X.base T k A gf) (ha : DE X T E e f) (hk : k + 1 ≤ j := by decide) (hg : Gl X c := by rfl) (hdb : (c == ("__debug__" : Str)) = false := by decide)
    (hst : starEach [.Starred e sp_] X.env = [(true, eval e X.env)] := by rfl) : DE X T E (.Call (.Name c p) [.Starred e sp_] [] pos) (eNewStar c gf f) := by
  obtain ⟨fm, hm, Fn⟩ := hf.ex
  refine ⟨fun pins s σ H Q I q => ?_⟩
  refine wpAny_Call_Name_kw (ld_glob I hg hc ?_ hdb)
  have q' : tD (CvX X T) E f σ H (fun y H1 => ∃ a xs, y = V.ref a ∧ SqT X.K H1 a xs ∧ ∀ x dx, H1 x = Option.none → H1 dx = Option.none → dx ≠ x → spS (CvX X T) gf (V.ref x :: xs) (upd (upd H1 dx (.own x)) x (.ins A dx [])) (fun v H2 => v = .non ∧ Q (.ref x) H2) E) := by
    obtain ⟨ρ, α, μ, S, sl, q⟩ := q
    refine tD_bind S sl q fun v w H1 α1 μ1 st1 S1 sl1 r1 q1 => ?_
    cases w with
    | d d =>
      cases d with
      | tuple ds =>
        dsimp only at q1
        split at q1
        · rename_i hl
          obtain ⟨a, xs, rfl, h1, rr⟩ := RpT.tuple (.inl r1)
          exact ⟨a, xs, rfl, h1, mkS_rd hc S1 rr (by rw [rr.length]; exact lim_line hl) q1⟩
        · exact (show False from q1).elim
      | _ => exact (show False from q1).elim
    | _ => exact (show False from q1).elim
  refine PySem.W.callWith_S (h₀ := X.base) I.ok.mod.kin hm.kp (thn (ha.run pins s σ H _ I q') fun v s1 ⟨y, H1, I1, ry, a, xs, ey, hxs, q⟩ => ?_) hst
  subst ey
  obtain rfl : v = Value.ref a := ry
  exact StX.star_any I1 (.inl hxs) fun us s2 I2 rv => ⟨I2.kIn, StX.run_makeR hm Fn (ck.room.mono hk) ck.passes I2 rv q⟩
end
end L3

set_option Elab.async false
set_option linter.all false
set_option maxRecDepth 100000
set_option maxHeartbeats 2000000
/-! try .. except WalkError as e: return _law_names(e), in a def of one's own; what a lambda's object shows, tried. -/
namespace Mi
open PySem
/-- a body that is tried: the names of the error -/
def sTryN (nm : Exn → Option Str) (F : SF) : SF := fun ρ μ => match F ρ μ with
  | .er x μ1 => (match nm x with
    | some s => .rt (.d (.str s)) μ1
    | none => .no)
  | r => r
/-- a lambda's object, its property, or the names of the error -/
def eOut (c : Str) (g : GF) (nm : Exn → Option Str) (f : EF) : EF := fun ρ μ => match f ρ μ with
  | .ok (.m k) μ1 => (match mins μ1 k with
    | some (c', _) => if c' = c then noEr (g [.m k] μ1) else .no
    | none => .no)
  | .er x μ1 => ofO ((nm x).map fun s => W.d (.str s)) μ1
  | _ => .no
end Mi
namespace L3
open PySem PySem.Spec PyProof.Rows L2 Mi
/-- what a try of one's own must know -/
structure TryN (P : Program) (w : World) (K : PySem.W.Frag) (mg : Str → Option Value) (base : Heap) (T : List (Addr × Str)) (kn : Nat) (nm : Exn → Option Str) : Prop where
  ex : ∃ (row : Addr → Str → Prop) (CS : Addr), HasNm P w K mg base T kn "_law_names" row ∧ mg "WalkError" = some (.ref CS) ∧ ∀ x s, nm x = some s → x.arg = none ∧ ∃ D, mg x.cls = some (.ref D) ∧ PySem.W.exmOne K (.ref D) (.ref CS) = some true ∧ row D s
theorem tryN_ok {P : Program} {w : World} {K : PySem.W.Frag} {mg : Str → Option Value} {base : Heap} {T : List (Addr × Str)} {k : Nat} {cl : List Str} (hn : HasNm P w K mg base T k "_law_names" (NmR K mg)) (hW : ∃ CS, mg "WalkError" = some (.ref CS)) (hc : ∀ x ∈ cl, ClsRow K mg x) : TryN P w K mg base T k (nmC cl) := by
  obtain ⟨CS, hW⟩ := hW
  refine ⟨NmR K mg, CS, hn, hW, fun x s h => ?_⟩
  unfold nmC at h
  split at h
  · cases h
  · rename_i ha
    split at h
    · rename_i hx
      obtain ⟨i, D, CS', h1, h2, h3, h4, h5⟩ := hc x.cls (by simpa using hx)
      rw [h1] at h
      rw [h3] at hW
      cases hW
      exact ⟨ha, D, h2, h4, i, h, h5⟩
    · cases h
section
variable {X : Cx} {T : List (Addr × Str)} {E : XK} {j kn i : Nat} {pos np pos' p5 p6 p7 p8 : Pos} {body : List Stmt} {F : SF} {nm : Exn → Option Str}
theorem ds_tryN (i : Nat) (hT : TryN X.prog X.w X.K X.mg X.base T kn nm) (ck : CK X E j)
    (hbody : ∀ (pn : List (Addr × Obj)) (xe : Value → Shared → Prop) (E' : XK), CK (X.tr pn xe) E' j → DSs (X.tr pn xe) T E' body F) (hkn : kn ≤ j := by decide)
    (hs : X.stack = X.env :: X.outer := by rfl) (hf : X.env.frame = some X.env.locals := by rfl) (hi : X.N[i]? = some "e" := by rfl) (hln : X.env.kindOf "e" = some .local := by rfl) (hgW : Gl X "WalkError" := by rfl) (hgN : Gl X "_law_names" := by rfl) :
    DS X T E (.Try body [.ExceptHandler (some (.Name "WalkError" np)) (some "e") [.Return (some (.Call (.Name "_law_names" p5) [.Name "e" p6] [] p7)) p8] pos'] [] [] pos) (sTryN nm F) := by
  obtain ⟨row, CS, hn, hW, hnm⟩ := hT.ex
  refine ⟨fun pins s σ H D I q => ?_⟩
  obtain ⟨ρ, α, μ, S, sl, q⟩ := q
  have hlen : i < X.N.length := (List.getElem?_eq_some_iff.mp hi).1
  have tr := L2N.ps_try_as (X := X) (i := i) (c := .ref CS) (body := body) (np := np) (pos' := pos') (pos := pos)
      (b₀ := .Return (some (.Call (.Name "_law_names" p5) [.Name "e" p6] [] p7)) p8) (suite := [])
      (tb := fun W => tS (CvX X T) (fun cls d H' => ∀ σ' : L2.St, σ'.length = X.N.length → W cls d σ' H') F)
      (ts := fun a cls d D σ H => ∃ D0 nm, cls = .ref D0 ∧ d = none ∧ row D0 nm ∧ σ[i]? = some (some (.ref a)) ∧ ∃ α μ, Stor (CvX X T) H α μ ∧ PQ (CvX X T) E0 D.rt H α μ (.ok (.d (.str nm)) μ))
      (Wout := fun _ _ _ _ => False) hs hf ck.nd hi hln ⟨hgW, by decide, .inl hW⟩ noTakes
      (fun W pn xe tk _ => hbody pn xe _ ⟨ck.calm, ck.nd, ck.room, fun u s' ⟨a, B, sI, pins, σ, H, cls, d, e, I, nb, up, sky, na, os, ag, w⟩ => tk u s' ⟨a, B, sI, pins, σ, H, cls, d, e, I, nb, up, sky, na, os, ag, w σ I.len⟩⟩)
      (fun a oe cls d pn hz hfl => ?_)
  · refine tr.run pins s σ H D I ⟨ρ, α, μ, S, sl, ?_⟩
    have q1 : QS (CvX X T) E D H α μ (match F ρ μ with
      | .er x μ1 => (match nm x with | some s => .rt (.d (.str s)) μ1 | none => .no)
      | r => r) := q
    cases e : F ρ μ with
    | nx ρ1 μ1 => rw [e] at q1; exact q1
    | rt w μ1 => rw [e] at q1; exact q1
    | bk ρ1 μ1 => rw [e] at q1; exact q1
    | ct ρ1 μ1 => rw [e] at q1; exact q1
    | no => rw [e] at q1; exact q1
    | er x μ1 =>
      rw [e] at q1
      dsimp only at q1
      intro cls d H' α' st S' rx σ' hl
      split at q1
      · rename_i s0 en
        obtain ⟨ha, D0, hm0, hx0, hrow⟩ := hnm x s0 en
        obtain ⟨r1, r2⟩ := rx
        have r1 : X.mg x.cls = some cls := r1
        rw [hm0] at r1
        cases r1
        rw [ha] at r2
        obtain rfl := r2
        refine ⟨true, hx0, fun _ a na => ⟨D0, s0, rfl, rfl, hrow, ?_, α', μ1, S', fun v H3 α3 st3 S3 r3 => q1 v H3 α3 (st.trans st3) S3 r3⟩, fun z => nomatch z⟩
        rw [List.getElem?_set_self (by rw [hl]; exact hlen)]
      · exact (show False from q1).elim
  · refine ⟨fun pins2 s2 σ2 H2 D2 I2 h2 => ?_⟩
    obtain ⟨D0, nm0, rfl, rfl, hrow, hs, α2, μ2, S2, q2⟩ := h2
    obtain ⟨vs, hv⟩ := hfl
    have hrm : L2H.RoomH kn (X.A.mark (some (.ref a))) := L2H.RoomH.mono ⟨ck.room.dp, ck.room.un⟩ hkn
    exact (pss_one (ps_ret (pe_nm (X := X.suite a ((a, oe) :: pn)) (i := i) hn hrm (a0 := a) (oe := oe) ⟨rfl, vs, hv, hz.2.2 vs hv⟩ List.mem_cons_self hz.zc hrow hi (.inl hln) hgN))).run pins2 s2 σ2 H2 D2 I2 ⟨hs, α2, μ2, S2, q2⟩
end
end L3

set_option Elab.async false
set_option linter.all false
set_option maxRecDepth 100000
set_option maxHeartbeats 2000000
/-! The def that tries a lambda and shows a property of its object, or tells the error's names. -/
namespace L3
open PySem PySem.Spec PyProof.Rows L2 Mi
structure HasOut (P : Program) (w : World) (K : PySem.W.Frag) (mg : Str → Option Value) (base : Heap) (T : List (Addr × Str)) (k : Nat) (x y : Str) (nm : Exn → Option Str) : Prop where
  ex : ∃ (st : Stmt) (row : Addr → Str → Prop) (CS : Addr), DefFact K mg x st ["call"] ∧ FnScope ["call", "e"] ["call"] (defScope st) ∧
    (∃ (p1 p2 p3 p4 p5 p6 p7 p8 p9 p10 : Pos) (ap : Pos), defBody st = [.Try [.Return (some (.Attribute (.Call (.Name "call" p1) [] [] p2) y ap)) p3] [.ExceptHandler (some (.Name "WalkError" p4)) (some "e") [.Return (some (.Call (.Name "_law_names" p5) [.Name "e" p6] [] p7)) p8] p9] [] [] p10]) ∧
    (defScope st).names.lookup ("WalkError" : Str) = some .globalImplicit ∧ (defScope st).names.lookup ("_law_names" : Str) = some .globalImplicit ∧ (defScope st).names.lookup ("e" : Str) = some .local ∧ (defScope st).names.lookup ("call" : Str) = some .local ∧
    HasNm P w K mg base T k "_law_names" row ∧ mg "WalkError" = some (.ref CS) ∧
    ∀ x s, nm x = some s → x.arg = none ∧ ∃ D, mg x.cls = some (.ref D) ∧ PySem.W.exmOne K (.ref D) (.ref CS) = some true ∧ row D s
section
variable {P : Program} {w : World} {K : PySem.W.Frag} {mg : Str → Option Value} {base : Heap} {T : List (Addr × Str)} {k : Nat}
theorem out_ok {st : Stmt} {cl : List Str} {x y : Str} (df : DefFact K mg x st ["call"]) (Sg : FnScope ["call", "e"] ["call"] (defScope st))
    (hB : ∃ (p1 p2 p3 p4 p5 p6 p7 p8 p9 p10 : Pos) (ap : Pos), defBody st = [.Try [.Return (some (.Attribute (.Call (.Name "call" p1) [] [] p2) y ap)) p3] [.ExceptHandler (some (.Name "WalkError" p4)) (some "e") [.Return (some (.Call (.Name "_law_names" p5) [.Name "e" p6] [] p7)) p8] p9] [] [] p10])
    (g1 : (defScope st).names.lookup ("WalkError" : Str) = some .globalImplicit) (g2 : (defScope st).names.lookup ("_law_names" : Str) = some .globalImplicit) (g3 : (defScope st).names.lookup ("e" : Str) = some .local) (g4 : (defScope st).names.lookup ("call" : Str) = some .local)
    (hn : HasNm P w K mg base T k "_law_names" (NmR K mg)) (hW : ∃ CS, mg "WalkError" = some (.ref CS)) (hc : ∀ x ∈ cl, ClsRow K mg x) : HasOut P w K mg base T k x y (nmC cl) := by
  obtain ⟨CS, hW⟩ := hW
  refine ⟨st, NmR K mg, CS, df, Sg, hB, g1, g2, g3, g4, hn, hW, fun x s h => ?_⟩
  unfold nmC at h
  split at h
  · cases h
  · rename_i ha
    split at h
    · rename_i hx
      obtain ⟨i, D, CS', h1, h2, h3, h4, h5⟩ := hc x.cls (by simpa using hx)
      rw [h1] at h
      rw [h3] at hW
      cases hW
      exact ⟨ha, D, h2, h4, i, h, h5⟩
    · cases h
end
section
variable {X : Cx} {T : List (Addr × Str)} {E : XK} {j k kn kp : Nat} {pos : Pos}
theorem de_out {x y c : Str} {A : Addr} {gf : GF} {nm : Exn → Option Str} {f : EF} {params : Arguments} {body : Expr} {scope : Scope} {p lpos : Pos} (hT : HasOut X.prog X.w X.K X.mg X.base T kn x y nm) (oc : OwnC X.K X.mg c A) (hP : HasP X.prog X.w X.K X.mg X.base T kp A y gf) (la : LamAt X T) (ck : CK X E j)
    (hbody : ∀ (A : Around) (outer : List PySem.Env) (s : Shared) (H : Hp) (E : XK) (g c' : Addr), CK (lamCxN X A outer s H E scope g c') E k → DE (lamCxN X A outer s H E scope g c') T E body f)
    (hk : k + 2 ≤ j := by decide) (hkn : kn ≤ k := by decide) (hkp : kp ≤ k := by decide) (L : LamX.LamS X.env.scope scope := by exact LamX.lamS_by (by kernel_rfl)) (hdef : defaultsOf params X.env = ([], []) := by rfl)
    (hbind : ∀ (q : Str) (cl : List (Str × Addr)) (pm cv ctv : Value), bindArgs (PySem.W.kla_fn "<lambda>" q params body scope cl pm cv ctv) ⟨[], []⟩ = pure [] := by intros; rfl) (hg : Gl X x := by rfl) (hdb : (x == ("__debug__" : Str)) = false := by decide) :
    DE X T E (.Call (.Name x p) [.Lambda params body scope lpos] [] pos) (eOut c gf nm f) := by
  refine ⟨fun pins s σ H Q I ⟨ρ, α, μ, S, sl, q⟩ => ?_⟩
  obtain ⟨st, row, CS, df, Sg, ⟨p1, p2, p3, p4, p5, p6, p7, p8, p9, p10, ap, hB⟩, gW, gN, gE, gC, hn, hW, hnm⟩ := hT.ex
  obtain ⟨g, fd, dvs, kws, Fu, hm, hb⟩ := df.ex
  obtain ⟨oc0, od, dV, kV, doc, pm, an, cdv, ct, osl, rfl, lk, hcd, _, _⟩ := Fu.ex
  obtain ⟨cc, P, hcode, TB, hmT, hu⟩ := la
  obtain ⟨pr0, fa, fdp, psp, hp1, hp2, hp3⟩ := hP.ex
  have hr : Room (k + 2) X.A := ck.room.mono hk
  refine wpAny_Call_Name_kw (ld_glob I hg hm ?_ hdb)
  refine PySem.W.callWith_K (h₀ := X.base) I.ok.mod.kin Fu.kp ?_ (by rfl) (by rfl)
  show wpAny _ _ (spliced ((false, eval (.Lambda params body scope lpos) X.env) :: backTo pos (starEach [] X.env))) _ _ s
  refine Calls.spliced_cons (LamX.lam_make2 I TB hcode hmT hu S.tabs hdef (L.has I.ok) fun f' c' pm' ctv H1 s' I1 eN T1 hf hfn hfr hco => ?_)
  refine Calls.spliced_nil ⟨I1.kIn, ?_⟩
  obtain ⟨st1, S1⟩ := extN_step S eN T1
  have sl1 := sl.step st1
  have q0 := PQ.step q st1
  have rc : codeAny (model X.prog X.w) X.A (.call (.ref g) ⟨[.ref f'], []⟩) (CR (L2N.CX X.prog X.w) X.stack X.prog X.w H1 s' Q E0) s' := by
    refine LamX.run_ofS (N := ["call", "e"]) (ps := ["call"]) (us := [.ref f']) (vs := [.ref f']) lk hcd Sg hr I1.env0 (hb s' [.ref f'] I1.kIn rfl) (.cons rfl .nil) rfl fun hr' => ?_
    rw [hB]
    have hB2 : ∀ (A : Around) (outer : List PySem.Env) (s2 : Shared) (H2 : Hp) (E2 : XK), Room k (A.deeper (LamX.lamEnv X scope s2.heap.objs.size f' c')) → PE (lamCxN X A outer s2 H2 E2 scope f' c') body (tD (CvX X T) E2 f) := fun A outer s2 H2 E2 hr2 =>
      hbody A outer s2 H2 E2 f' c' ⟨rfl, ck.nd, hr2, L2N.takes_of rfl rfl rfl rfl⟩
    refine ⟨_, pss_one (L2N.ps_try_as (X := cxOf (L2N.CX X.prog X.w) X.prog X.w X.K X.mg X.base ["call", "e"] x (defScope st) g cdv X.A X.stack s' H1 E0) (i := 1) (c := .ref CS)
      (tb := fun W => tRet (fun σZ HZ Q => σZ[0]? = some (some (.ref f')) ∧ HZ c' = some (LamX.CodeO c' (X.env.qual ++ "<lambda>")) ∧ tD (CvX X T) (WE W σZ) f σ HZ (fun v H2 => ∃ p dx fs, v = .ref p ∧ H2 p = some (.ins A dx fs) ∧ spD ⟨X.K, X.mg, T⟩ gf (.ref p :: []) H2 Q (fun _ _ _ => False))))
      (ts := fun a cls d D σ H => ∃ D0 nm, cls = .ref D0 ∧ d = none ∧ row D0 nm ∧ σ[1]? = some (some (.ref a)) ∧ ∃ α μ, Stor (CvX X T) H α μ ∧ PQ (CvX X T) E0 D.rt H α μ (.ok (.d (.str nm)) μ))
      (Wout := fun _ _ _ _ => False) rfl rfl Sg.nd rfl gE ⟨gW, by decide, .inl hW⟩ noTakes (fun W pn xe tk _ => pss_one (ps_ret (pe_imp (pe_prop (E := fun _ _ _ => False) (pe_actN (i := 0) I1 L hf hfn hfr (hbind _ _ _ _ _) tk hr' hB2 rfl (.inl gC)) oc.cls hp1 hp3 (Room.mono hr' (Nat.succ_le_succ hkp)) hp2 .nil pass_e0 rfl) fun σ2 H2 Q2 h2 => by exact h2))) fun a oe cls d pn hz hfl => ?_), ?_⟩
    · refine ⟨fun pins2 s2 σ2 H2 D2 I2 h2 => ?_⟩
      obtain ⟨D0, nm0, rfl, rfl, hrow, hs, α2, μ2, S2, q2⟩ := h2
      obtain ⟨vs, hv⟩ := hfl
      have hrm : L2H.RoomH kn ((X.A.deeper (envOfC x (defScope st) s'.heap.objs.size g cdv)).mark (some (.ref a))) := L2H.RoomH.mono ⟨hr'.dp, hr'.un⟩ (by omega)
      exact (pss_one (ps_ret (pe_nm (X := (cxOf (L2N.CX X.prog X.w) X.prog X.w X.K X.mg X.base ["call", "e"] x (defScope st) g cdv X.A X.stack s' H1 E0).suite a ((a, oe) :: pn)) (i := 1) hn hrm (a0 := a) (oe := oe) ⟨rfl, vs, hv, hz.2.2 vs hv⟩ List.mem_cons_self hz.zc hrow rfl (.inl gE) gN))).run pins2 s2 σ2 H2 D2 I2 ⟨hs, α2, μ2, S2, q2⟩
    · refine ⟨rfl, hco, ρ, α, μ, S1, sl1, ?_⟩
      have q1 : PQ (CvX X T) E Q H1 α μ (match f ρ μ with
        | .ok (.m k) μ1 => (match mins μ1 k with
          | some (c', _) => if c' = c then noEr (gf [.m k] μ1) else .no
          | none => .no)
        | .er x μ1 => ofO ((nm x).map fun s => W.d (.str s)) μ1
        | _ => .no) := q0
      clear q0 q
      cases e : f ρ μ with
      | no => rw [e] at q1; exact q1.elim
      | ok w μ1 =>
        rw [e] at q1
        cases w with
        | m k0 =>
          dsimp only at q1
          split at q1
          · rename_i c1 fs1 e1
            split at q1
            · rename_i ec
              subst ec
              intro v H' α' st2 S2 r2
              obtain ⟨p, dx, gs, rfl, hx, _, _⟩ := ins_cell S2 oc.at_ e1 r2
              refine ⟨p, dx, gs, rfl, hx, [.m k0], α', μ1, S2, .cons r2 .nil, ?_⟩
              cases e2 : gf [.m k0] μ1 with
              | no => rw [e2] at q1; exact (show False from q1).elim
              | er _ _ => rw [e2] at q1; exact (show False from q1).elim
              | ok w2 μ2 =>
                rw [e2] at q1
                exact fun v3 H3 α3 st3 S3 r3 => q1 v3 H3 α3 (st2.trans st3) S3 r3
            · exact (show False from q1).elim
          · exact (show False from q1).elim
        | _ => exact (show False from q1).elim
      | er y0 μ1 =>
        rw [e] at q1
        have q1 : PQ (CvX X T) E Q H1 α μ (ofO ((nm y0).map fun s => W.d (.str s)) μ1) := q1
        obtain ⟨z, ez, q2⟩ := PQ.cut q1
        cases en : nm y0 with
        | none => rw [en] at ez; cases ez
        | some t =>
          rw [en] at ez
          cases ez
          obtain ⟨ha, D0, hm0, hx0, hrow⟩ := hnm y0 t en
          intro cls d H' α' st2 S2 rx
          obtain ⟨r1, r2⟩ := rx
          have r1 : X.mg y0.cls = some cls := r1
          rw [hm0] at r1
          cases r1
          rw [ha] at r2
          obtain rfl := r2
          exact ⟨true, hx0, fun _ a na => ⟨D0, t, rfl, rfl, hrow, rfl, α', μ1, S2, fun v H3 α3 st3 S3 r3 => q2 v H3 α3 (st2.trans st3) S3 r3⟩, fun z => nomatch z⟩
  refine wpAny_call (codeAny_mono rc fun r s2 hq => ?_)
  cases r with
  | error e =>
    obtain ⟨_, _, _, _, _, _, _, _, _, _, _, _, z⟩ := hq
    exact z.elim
  | ok fl =>
    cases fl with
    | ret u => exact I1.after hq
    | next => exact False.elim hq
    | brk => exact False.elim hq
    | cont => exact False.elim hq
end
end L3

set_option Elab.async false
set_option linter.all false
set_option maxRecDepth 100000
set_option maxHeartbeats 2000000
/-! The head's facts of an own class with operators, a star parameter, a constant. -/
namespace L3
open PySem PySem.Spec PyProof.Rows L2 Mi He
def isoB (K : PySem.W.Frag) (A : Addr) : Bool := eqO (PySem.W.findIn K (.ref A) "__class__") (some (some (.builtin "object.__class__"))) && (eqO (PySem.W.specialIn K (.builtin "object.__class__") "__get__") (some (some (.builtin "getset_descriptor.__get__"))) &&
  (decide (PySem.W.takesIn K (.builtin "object.__class__") = some true) && (decide (PySem.W.mroIn K A (.type "object") = some true) && (["NoneType", "bool", "int", "str", "list", "tuple"].all fun T => decide (PySem.W.kitOne K (.type T) (.ref A) = some false)))))
theorem isoB_ok {K : PySem.W.Frag} {A : Addr} (h : isoB K A = true) : IsoC K A := by
  obtain ⟨h1, h⟩ := ba h
  obtain ⟨h2, h⟩ := ba h
  obtain ⟨h3, h⟩ := ba h
  obtain ⟨h4, h5⟩ := ba h
  exact ⟨eqO_ok h1, eqO_ok h2, of_decide_eq_true h3, of_decide_eq_true h4, fun T hT => of_decide_eq_true (List.all_eq_true.mp h5 T hT)⟩
/-- C.f is a whole number -/
structure CInt (K : PySem.W.Frag) (mg : Str → Option Value) (c f : Str) (n : Int) : Prop where
  ex : ∃ A t, mg c = some (.ref A) ∧ ClX.CRead K A (.type "type") ∧ ClX.CVal K A (.type "type") f (.int n) (.int n t)
def cintB (K : PySem.W.Frag) (A : Addr) (f : Str) (n : Int) : Bool := PySem.W.readsIn K A (.type "type") && (eqO (PySem.W.specialIn K (.ref A) "__getattribute__") (some (some (.builtin "type.__getattribute__"))) && (match PySem.W.findCls K (.ref A) (.type "type") f with
  | some (.val (.int m _)) => m == n
  | _ => false))
theorem cintB_ok {K : PySem.W.Frag} {mg : Str → Option Value} {c f : Str} {A : Addr} {n : Int} (h : cintB K A f n = true) (hm : mg c = some (.ref A)) : CInt K mg c f n := by
  obtain ⟨h1, h⟩ := ba h
  obtain ⟨h2, h3⟩ := ba h
  split at h3
  · rename_i m t e
    have := eq_of_beq h3
    subst this
    exact ⟨A, t, hm, ⟨h1, eqO_ok h2⟩, ⟨e, ⟨_, rfl⟩⟩⟩
  · cases h3
theorem de_cint {X : Cx} {T : List (Addr × Str)} {E : XK} {c f : Str} {n : Int} {p pos : Pos} (h : CInt X.K X.mg c f n) (hg : Gl X c := by rfl) (hdb : (c == ("__debug__" : Str)) = false := by decide)
    (hb : attributeBase (.Name c p) f X.env (eval (.Name c p) X.env) = eval (.Name c p) X.env := by rfl) : DE X T E (.Attribute (.Name c p) f pos) (eInt n) := by
  obtain ⟨A, t, hm, r, k⟩ := h.ex
  exact pe_imp (ClX.pe_cval (pe_glob hg hm (v := .ref A) rfl hdb) hb) fun σ H Q ⟨ρ, α, μ, S, sl, q⟩ => ⟨A, _, _, _, rfl, r, k, PQ.ok (w := .d (.int n)) S (.int n) q⟩
theorem init_factS {K : PySem.W.Frag} {x qual p1 pv : Str} {st : Stmt} {kws : List (Str × V)} {fd : FuncData} (c : (Fa.mkr x).ok K = true) (F : FunD K "__init__" qual (defArgs st) (defBody st) (defScope st) [] kws (ma K (ga K x) "__init__") fd)
    (h0 : ∀ (kV doc pm : Value) (an : Option Addr) (cdv ct : Value) (a : Value), bindArgs (PySem.W.fnOf "__init__" qual (defArgs st) (defBody st) (defScope st) .none kV doc pm an cdv ct) ⟨[a], []⟩ = (newTuple [] >>= fun t => pure [(p1, a), (pv, t)]))
    (h1 : ∀ (kV doc pm : Value) (an : Option Addr) (cdv ct : Value) (a r : Value) (rs : List Value), bindArgs (PySem.W.fnOf "__init__" qual (defArgs st) (defBody st) (defScope st) .none kV doc pm an cdv ct) ⟨a :: r :: rs, []⟩ = (newTuple (r :: rs) >>= fun t => pure [(p1, a), (pv, t)])) : InitFactS K (ga K x) qual st p1 pv := by
  have c2 : (PySem.W.makesIn K (ga K x) && (eqO (PySem.W.findIn K (.ref (ga K x)) "__init__") (some (some (.ref (ma K (ga K x) "__init__")))) && (PySem.W.isFn K (.ref (ma K (ga K x) "__init__")) && PySem.W.keepIn K (.ref (ga K x))))) = true := c
  obtain ⟨k1, c3⟩ := ba c2
  obtain ⟨k2, c4⟩ := ba c3
  obtain ⟨k3, k4⟩ := ba c4
  refine ⟨_, fd, [], kws, F, ⟨k1, eqO_ok k2, k3, k4⟩, ?_⟩
  obtain ⟨oc, od, dV, kV, doc, pm, an, cdv, ct, osl, rfl, lk, hcdi, hD, _⟩ := F.ex
  rcases hD with ⟨_, rfl⟩ | ⟨e, _⟩
  rotate_left
  · exact absurd rfl e
  exact StX.bind_star1 (B := fun l => bindArgs (PySem.W.fnOf "__init__" qual (defArgs st) (defBody st) (defScope st) .none kV doc pm an cdv ct) ⟨l, []⟩) (h0 kV doc pm an cdv ct) (h1 kV doc pm an cdv ct)
/-! ### the hook: the code objects of properties' getters, too (they lie one step deeper) -/
def prCodes (K : PySem.W.Frag) (pr : List PrD) : List Addr := pr.filterMap fun d => match K.lookup (gAd K d.at_) with
  | some ⟨_, _, .func fd, _⟩ => (match fd.code with | .ref c => some c | _ => none)
  | _ => none
def asR (n : Nat) (pr : List PrD) (g : Addr → Option Obj) : List Addr := asC g n ++ prCodes (frT g (asC g n)) pr
def obsXL (L : (Addr → Option Obj) → List Addr) (fa : List Fa) (fn : List DefD) (ts : List Tab) (tf : List Defn) (ex : PySem.W.Frag → Bool) (g : Addr → Option Obj) : AlX := (obsT fa fn ts (frT g (L g)), ex (frT g (L g)) && tabsB g tf (frT g (L g)))
theorem saysXL_of {L : (Addr → Option Obj) → List Addr} {fa : List Fa} {fn : List DefD} {ts : List Tab} {tf : List Defn} {ex : PySem.W.Frag → Bool} {w : World} {h : Heap} (e : obsXL L fa fn ts tf ex h.get? = valX fn ts w) : SaysX fa fn ts tf ex w h (frT h.get? (L h.get?)) := by
  have e1 : obsT fa fn ts (frT h.get? (L h.get?)) = valT fn ts w := congrArg (fun z : AlX => z.1) e
  have e2 : (ex (frT h.get? (L h.get?)) && tabsB h.get? tf (frT h.get? (L h.get?))) = true := congrArg (fun z : AlX => z.2) e
  obtain ⟨h1, h2⟩ := ba e2
  have key : ∀ p ∈ tf, PySem.W.codeHdIn (frT h.get? (L h.get?)) (cT (frT h.get? (L h.get?)) p).1 (cT (frT h.get? (L h.get?)) p).2 = true ∧ ∃ o, h.get? (cT (frT h.get? (L h.get?)) p).2 = some o ∧ emptyTab o = true := fun p hp => by
    obtain ⟨h3, h4⟩ := ba (List.all_eq_true.mp h2 p hp)
    refine ⟨h3, ?_⟩
    cases q : h.get? (cT (frT h.get? (L h.get?)) p).2 with
    | none => rw [q] at h4; cases h4
    | some o => rw [q] at h4; exact ⟨o, rfl, h4⟩
  refine ⟨e1, h1, fun p hp => (key p hp).1, fun p hp => ?_, fun p hp => ?_⟩
  · obtain ⟨_, o, q, z⟩ := key p hp
    exact frT_none q z
  · obtain ⟨_, o, q, z⟩ := key p hp
    rw [q, emptyTab_eq z]
def obsL (L : (Addr → Option Obj) → List Addr) (fa : List Fa) (fn : List DefD) (ts : List Tab) (tf : List Defn) (ex : PySem.W.Frag → Bool) (pr : List PrD) (qr : List QrD) (g : Addr → Option Obj) : AlQ := ((obsXL L fa fn ts tf ex g, pr.map fun d => fnP (frT g (L g)) d.at_), qr.map fun d => fnC (frT g (L g)) d.cls)
def hookL (L : (Addr → Option Obj) → List Addr) (fa : List Fa) (fn : List DefD) (ts : List Tab) (tf : List Defn) (ex : PySem.W.Frag → Bool) (pr : List PrD) (qr : List QrD) : PySem.W.Hook where
  α := AlQ
  obs := fun s => obsL L fa fn ts tf ex pr qr s.heap.get?
  val := fun w => ((valX fn ts w, pr.map PrD.val), qr.map QrD.val)
  says := fun w h => ∃ K : PySem.W.Frag, K.In h ∧ SaysQ fa fn ts tf ex pr qr w h K
  of := fun w s e => ⟨_, frT_in, ⟨⟨saysXL_of (congrArg (fun z : AlQ => z.1.1) e), congrArg (fun z : AlQ => z.1.2) e⟩, congrArg (fun z : AlQ => z.2) e⟩⟩
  keeps := fun _ _ _ ⟨K, hK, c⟩ k => ⟨K, PySem.W.Frag.In.keeps hK k, ⟨⟨⟨c.x.x.t, c.x.x.more, c.x.x.hd, c.x.x.out, fun p hp => k _ _ (c.x.x.empty p hp)⟩, c.x.p⟩, c.q⟩⟩
theorem obsL_eq {L : (Addr → Option Obj) → List Addr} {fa : List Fa} {fn : List DefD} {ts : List Tab} {tf : List Defn} {ex : PySem.W.Frag → Bool} {pr : List PrD} {qr : List QrD} {g : Addr → Option Obj} {s : Shared} (h : ∀ a, g a = s.heap.get? a) : obsL L fa fn ts tf ex pr qr g = (hookL L fa fn ts tf ex pr qr).obs s := by
  have e : g = s.heap.get? := funext h
  rw [e]
  rfl
/-- a class with operators -/
structure OpsC (K : PySem.W.Frag) (A : Addr) : Prop where
  sf : PySem.W.selfFirst K A = true
  ne : PySem.W.findIn K (.ref A) "__ne__" = some (some (.builtin "object.__ne__"))
  iso : IsoC K A
def opsB (K : PySem.W.Frag) (A : Addr) : Bool := PySem.W.selfFirst K A && (eqO (PySem.W.findIn K (.ref A) "__ne__") (some (some (.builtin "object.__ne__"))) && isoB K A)
theorem opsB_ok {K : PySem.W.Frag} {A : Addr} (h : opsB K A = true) : OpsC K A := by
  obtain ⟨h1, h⟩ := ba h
  obtain ⟨h2, h3⟩ := ba h
  exact ⟨h1, eqO_ok h2, isoB_ok h3⟩
/-- the methods that are reached by the class's slots are functions -/
def FnAt (K : PySem.W.Frag) (A : Addr) (m : Str) : Prop := ∀ g, PySem.W.findIn K (.ref A) m = some (some (.ref g)) → PySem.W.fnIn K g = true
def fnAtB (K : PySem.W.Frag) (A : Addr) (m : Str) : Bool := match PySem.W.findIn K (.ref A) m with
  | some (some (.ref g)) => PySem.W.fnIn K g
  | _ => true
theorem fnAt_ok {K : PySem.W.Frag} {A : Addr} {m : Str} (h : fnAtB K A m = true) : FnAt K A m := fun g e => by
  unfold fnAtB at h
  rw [e] at h
  exact h
theorem opTys_by {nm : String} (h : ∀ K : PySem.W.Frag, (["NoneType", "bool", "int", "str", "list", "tuple"].all fun T => (PySem.W.findIn K (.type T) (PySem.dunder nm)).isSome && (PySem.W.findIn K (.type T) (dunderR nm)).isSome) = true) : opTys nm := fun K T hT => by
  have z := List.all_eq_true.mp (h K) T hT
  exact ba z
theorem opTys_or : opTys "or" := opTys_by fun K => by kernel_rfl
theorem opTys_rshift : opTys "rshift" := opTys_by fun K => by kernel_rfl
theorem opTys_sub : opTys "sub" := opTys_by fun K => by kernel_rfl
end L3

set_option linter.all false
set_option Elab.async false
/-! The mirrors of the defs (printed by gen.py). -/
namespace Mir
open PySem Mi
/-- the own classes that are raised -/
def clsL : List Str := ["InvalidChange", "InvalidPiece", "InvalidWorth", "InvalidIndex", "Unlike"]
/-- is_whole: 0 value, 1 low, 2 high -/
def F_is_whole : SF :=
    (sRet (eAnd (eIsi .int (eVar 0)) (eAnd (eNot (eIsi .bool (eVar 0))) (eChain dLe dLe (eVar 1) (eVar 0) (eVar 2)))))
def g_is_whole : GF := fnOf 3 3 F_is_whole
/-- is_end: 0 value -/
def F_is_end : SF :=
    (sRet (eOr (eIsN (eVar 0)) (eCall g_is_whole (aCons (eVar 0) (aCons (eUn dNeg (eInt (1000000000000000000000000000000))) (aCons (eInt (1000000000000000000000000000000)) aNil))))))
def g_is_end : GF := fnOf 1 1 F_is_end
/-- are_ends: 0 low, 1 high -/
def F_are_ends : SF :=
    (sRet (eAnd (eCall g_is_end (aCons (eVar 0) aNil)) (eAnd (eCall g_is_end (aCons (eVar 1) aNil)) (eOr (eIsN (eVar 0)) (eOr (eIsN (eVar 1)) (eOp dLe (eVar 0) (eVar 1)))))))
def g_are_ends : GF := fnOf 2 2 F_are_ends
/-- is_piece: 0 value -/
def F_is_piece : SF :=
    (sSeq (sIf (eOr (eNot (eIsi .tuple (eVar 0))) (eOr (eOp dNe (eBlt bLen (aCons (eVar 0) aNil)) (eInt 4)) (eNot (eCall g_are_ends (aCons (eOp dIx (eVar 0) (eInt 0)) (aCons (eOp dIx (eVar 0) (eInt 1)) aNil)))))) (sRet (eBl false)) sNil)
    (sSeq (sIf (eOr (eNot (eIsi .str (eOp dIx (eVar 0) (eInt 2)))) (eNot (eCall g_is_whole (aCons (eOp dIx (eVar 0) (eInt 3)) (aCons (eUn dNeg (eInt (1000000000000000000000000000000))) (aCons (eInt (1000000000000000000000000000000)) aNil)))))) (sRet (eBl false)) sNil)
    (sRet (eOr (eOp dEq (eOp dIx (eVar 0) (eInt 2)) (eStr "set")) (eAnd (eOp dEq (eOp dIx (eVar 0) (eInt 2)) (eStr "add")) (eOp dNe (eOp dIx (eVar 0) (eInt 3)) (eInt 0)))))))
def g_is_piece : GF := fnOf 1 1 F_is_piece
/-- are_apart: 0 one, 1 other -/
def F_are_apart : SF :=
    (sRet (eAnd (eNotN (eOp dIx (eVar 0) (eInt 1))) (eAnd (eNotN (eOp dIx (eVar 1) (eInt 0))) (eOp dLt (eOp dIx (eVar 0) (eInt 1)) (eOp dIx (eVar 1) (eInt 0))))))
def g_are_apart : GF := fnOf 2 2 F_are_apart
/-- fits_change: 0 value, 1 at, 2 piece -/
def F_fits_change : SF :=
    (sSeq (sIf (eOr (eNot (eIsi .tuple (eVar 0))) (eOr (eNot (eChain dLe dLe (eInt 1) (eBlt bLen (aCons (eVar 0) aNil)) (eInt 4))) (eNot (eBlt bAll (aCons (eLc [2] (tName 2) (iSeq (eVar 0)) eYes (eCall g_is_piece (aCons (eVar 2) aNil))) aNil))))) (sRet (eBl false)) sNil)
    (sRet (eBlt bAll (aCons (eLc [1] (tName 1) (iRange1 (eOp dSub (eBlt bLen (aCons (eVar 0) aNil)) (eInt 1))) eYes (eCall g_are_apart (aCons (eOp dIx (eVar 0) (eVar 1)) (aCons (eOp dIx (eVar 0) (eOp dAdd (eVar 1) (eInt 1))) aNil)))) aNil))))
def g_fits_change : GF := fnOf 1 3 F_fits_change
/-- need_change: 0 value -/
def F_need_change : SF :=
    (sIf (eNot (eCall g_fits_change (aCons (eVar 0) aNil))) (sRaise "InvalidChange") sNil)
def g_need_change : GF := fnOf 1 1 F_need_change
/-- need_worth: 0 value, 1 low -/
def F_need_worth : SF :=
    (sIf (eNot (eCall g_is_whole (aCons (eVar 0) (aCons (eVar 1) (aCons (eInt (1000000000000000000000000000000)) aNil))))) (sRaise "InvalidWorth") sNil)
def g_need_worth : GF := fnOf 2 2 F_need_worth
def g_need_worth_d : GF := fun ws μ => fnOf 2 2 F_need_worth (ws ++ ([(PyData.int (-1000000000000000000000000000000))] : List PyData).map W.d) μ
/-- floor_of: 0 piece -/
def F_floor_of : SF :=
    (sRet (eIf (eIsN (eOp dIx (eVar 0) (eInt 0))) (eUn dNeg (eInt (100000000000000000000000000000000))) (eOp dIx (eVar 0) (eInt 0))))
def g_floor_of : GF := fnOf 1 1 F_floor_of
/-- top_of: 0 piece -/
def F_top_of : SF :=
    (sRet (eIf (eIsN (eOp dIx (eVar 0) (eInt 1))) (eInt (100000000000000000000000000000000)) (eOp dIx (eVar 0) (eInt 1))))
def g_top_of : GF := fnOf 1 1 F_top_of
/-- has: 0 piece, 1 worth -/
def F_has : SF :=
    (sRet (eAnd (eOr (eIsN (eOp dIx (eVar 0) (eInt 0))) (eOp dLe (eOp dIx (eVar 0) (eInt 0)) (eVar 1))) (eOr (eIsN (eOp dIx (eVar 0) (eInt 1))) (eOp dLe (eVar 1) (eOp dIx (eVar 0) (eInt 1))))))
def g_has : GF := fnOf 2 2 F_has
/-- piece_of: 0 change, 1 worth, 2 piece -/
def F_piece_of : SF :=
    (sSeq (sFor (tName 2) (iSeq (eVar 0)) (sIf (eCall g_has (aCons (eVar 2) (aCons (eVar 1) aNil))) (sRet (eVar 2)) sNil))
    (sRet eNon))
def g_piece_of : GF := fnOf 2 3 F_piece_of
/-- made: 0 piece, 1 worth -/
def F_made : SF :=
    (sSeq (sIf (eIsN (eVar 0)) (sRet (eVar 1)) sNil)
    (sRet (eIf (eOp dEq (eOp dIx (eVar 0) (eInt 2)) (eStr "add")) (eOp dAdd (eVar 1) (eOp dIx (eVar 0) (eInt 3))) (eOp dIx (eVar 0) (eInt 3)))))
def g_made : GF := fnOf 2 2 F_made
/-- changed_by: 0 change, 1 worth -/
def F_changed_by : SF :=
    (sRet (eCall g_made (aCons (eCall g_piece_of (aCons (eVar 0) (aCons (eVar 1) aNil))) (aCons (eVar 1) aNil))))
def g_changed_by : GF := fnOf 2 2 F_changed_by
/-- parts_of: 0 change, 1 low, 2 high, 3 found, 4 begin, 5 piece, 6 least, 7 most -/
def F_parts_of : SF :=
    (sSeq (sPar 3 4 (eLst aNil) (eVar 1))
    (sSeq (sFor (tName 5) (iSeq (eVar 0)) (sSeq (sPar 6 7 (eBlt bMax2 (aCons (eVar 1) (aCons (eCall g_floor_of (aCons (eVar 5) aNil)) aNil))) (eBlt bMin2 (aCons (eVar 2) (aCons (eCall g_top_of (aCons (eVar 5) aNil)) aNil))))
    (sIf (eOp dLe (eVar 6) (eVar 7)) (sSeq (sIf (eOp dLt (eVar 4) (eVar 6)) (sAsg 3 (eOp dAdd (eVar 3) (eLst (aCons (eTup (aCons (eVar 4) (aCons (eOp dSub (eVar 6) (eInt 1)) (aCons eNon aNil)))) aNil)))) sNil)
    (sPar 3 4 (eOp dAdd (eVar 3) (eLst (aCons (eTup (aCons (eVar 6) (aCons (eVar 7) (aCons (eVar 5) aNil)))) aNil))) (eOp dAdd (eVar 7) (eInt 1)))) sNil)))
    (sRet (eIf (eOp dLe (eVar 4) (eVar 2)) (eOp dAdd (eVar 3) (eLst (aCons (eTup (aCons (eVar 4) (aCons (eVar 2) (aCons eNon aNil)))) aNil))) (eVar 3)))))
def g_parts_of : GF := fnOf 3 8 F_parts_of
/-- unlike_in: 0 one, 1 two, 2 least, 3 most, 4 worth -/
def F_unlike_in : SF :=
    (sSeq (sFor (tName 4) (iSeq (eTup (aCons (eVar 2) (aCons (eOp dAdd (eVar 2) (eInt 1)) aNil)))) (sIf (eAnd (eOp dLe (eVar 4) (eVar 3)) (eOp dNe (eCall g_made (aCons (eVar 0) (aCons (eVar 4) aNil))) (eCall g_made (aCons (eVar 1) (aCons (eVar 4) aNil))))) (sRet (eVar 4)) sNil))
    (sRet eNon))
def g_unlike_in : GF := fnOf 4 5 F_unlike_in
/-- first_unlike: 0 one, 1 other, 2 worth, 3 least, 4 most, 5 piece, 6 low, 7 high, 8 two, 9 found -/
def F_first_unlike : SF :=
    (sSeq (sFor (Mi.tTup [(tName 3), (tName 4), (tName 5)]) (iSeq (eCall g_parts_of (aCons (eVar 0) (aCons (eVar 2) (aCons (eInt (100000000000000000000000000000000)) aNil))))) (sFor (Mi.tTup [(tName 6), (tName 7), (tName 8)]) (iSeq (eCall g_parts_of (aCons (eVar 1) (aCons (eVar 3) (aCons (eVar 4) aNil))))) (sSeq (sAsg 9 (eCall g_unlike_in (aCons (eVar 5) (aCons (eVar 8) (aCons (eVar 6) (aCons (eVar 7) aNil))))))
    (sIf (eNotN (eVar 9)) (sRet (eVar 9)) sNil))))
    (sRet eNon))
def g_first_unlike : GF := fnOf 3 10 F_first_unlike
/-- turned_end: 0 end -/
def F_turned_end : SF :=
    (sRet (eIf (eIsN (eVar 0)) eNon (eUn dNeg (eVar 0))))
def g_turned_end : GF := fnOf 1 1 F_turned_end
/-- turned: 0 change, 1 piece -/
def F_turned : SF :=
    (sRet (eBlt bTup (aCons (eLc [1] (tName 1) (iSeq (eUn dRev (eVar 0))) eYes (eTup (aCons (eCall g_turned_end (aCons (eOp dIx (eVar 1) (eInt 1)) aNil)) (aCons (eCall g_turned_end (aCons (eOp dIx (eVar 1) (eInt 0)) aNil)) (aCons (eOp dIx (eVar 1) (eInt 2)) (aCons (eUn dNeg (eOp dIx (eVar 1) (eInt 3))) aNil)))))) aNil)))
def g_turned : GF := fnOf 1 2 F_turned
/-- again: 0 walk, 1 old, 2 new -/
def F_again : SF :=
    (sSeq (sIf (eOp dEq (eOp dIx (eVar 0) (eInt 0)) (eStr "up")) (sRet (eAnd (eOp dGt (eVar 2) (eVar 1)) (eOr (eIsN (eOp dIx (eVar 0) (eInt 2))) (eOp dLe (eVar 2) (eOp dIx (eVar 0) (eInt 2)))))) sNil)
    (sRet (eOp dEq (eOp dIx (eVar 0) (eInt 0)) (eStr "place"))))
def g_again : GF := fnOf 3 3 F_again
/-- met_part: 0 walk, 1 low, 2 high, 3 least -/
def F_met_part : SF :=
    (sSeq (sIf (eOp dNe (eOp dIx (eVar 0) (eInt 0)) (eStr "up")) (sRet (eTup (aCons (eVar 1) (aCons (eVar 2) aNil)))) sNil)
    (sSeq (sAsg 3 (eIf (eIsN (eOp dIx (eVar 0) (eInt 1))) (eVar 1) (eBlt bMax2 (aCons (eVar 1) (aCons (eOp dIx (eVar 0) (eInt 1)) aNil)))))
    (sRet (eTup (aCons (eVar 3) (aCons (eIf (eIsN (eOp dIx (eVar 0) (eInt 2))) (eVar 2) (eBlt bMin2 (aCons (eVar 2) (aCons (eOp dIx (eVar 0) (eInt 2)) aNil)))) aNil))))))
def g_met_part : GF := fnOf 3 4 F_met_part
/-- twice_added: 0 change, 1 walk, 2 begin, 3 end, 4 step, 5 roof, 6 least, 7 most, 8 piece -/
def F_twice_added : SF :=
    (sSeq (sIf (eAnd (eOp dEq (eOp dIx (eVar 1) (eInt 0)) (eStr "up")) (eOp dLt (eVar 4) (eInt 0))) (sRet eNon) sNil)
    (sSeq (sAsg 5 (eIf (eOr (eOp dNe (eOp dIx (eVar 1) (eInt 0)) (eStr "up")) (eIsN (eOp dIx (eVar 1) (eInt 2)))) (eInt (100000000000000000000000000000000)) (eOp dIx (eVar 1) (eInt 2))))
    (sSeq (sFor (Mi.tTup [(tName 6), (tName 7), (tName 8)]) (iSeq (eIf (eOp dLe (eOp dAdd (eVar 2) (eVar 4)) (eVar 5)) (eCall g_parts_of (aCons (eVar 0) (aCons (eOp dAdd (eVar 2) (eVar 4)) (aCons (eBlt bMin2 (aCons (eOp dAdd (eVar 3) (eVar 4)) (aCons (eVar 5) aNil))) aNil)))) (eLst aNil))) (sIf (eNotN (eVar 8)) (sRet (eOp dSub (eVar 6) (eVar 4))) sNil))
    (sRet eNon))))
def g_twice_added : GF := fnOf 5 9 F_twice_added
/-- has_piece: 0 change, 1 worth -/
def F_has_piece : SF :=
    (sRet (eNotN (eCall g_piece_of (aCons (eVar 0) (aCons (eVar 1) aNil)))))
def g_has_piece : GF := fnOf 2 2 F_has_piece
/-- twice_of: 0 statement, 1 worth, 2 change, 3 walk, 4 low, 5 high, 6 begin, 7 end, 8 piece, 9 found, 10 good -/
def F_twice_of : SF :=
    (sSeq (sTgt (Mi.tTup [(tName 2), (tName 3)]) (eVar 0))
    (sSeq (sTgt (Mi.tTup [(tName 4), (tName 5)]) (eCall g_met_part (aCons (eVar 3) (aCons (eVar 1) (aCons (eInt (100000000000000000000000000000000)) aNil)))))
    (sSeq (sFor (Mi.tTup [(tName 6), (tName 7), (tName 8)]) (iSeq (eIf (eOp dLe (eVar 4) (eVar 5)) (eCall g_parts_of (aCons (eVar 2) (aCons (eVar 4) (aCons (eVar 5) aNil)))) (eLst aNil))) (sSeq (sIf (eOr (eIsN (eVar 8)) (eOp dEq (eOp dIx (eVar 3) (eInt 0)) (eStr "first"))) sCont sNil)
    (sSeq (sIf (eOp dEq (eOp dIx (eVar 8) (eInt 2)) (eStr "add")) (sAsg 9 (eCall g_twice_added (aCons (eVar 2) (aCons (eVar 3) (aCons (eVar 6) (aCons (eVar 7) (aCons (eOp dIx (eVar 8) (eInt 3)) aNil))))))) (sSeq (sAsg 10 (eAnd (eCall g_has_piece (aCons (eVar 2) (aCons (eOp dIx (eVar 8) (eInt 3)) aNil))) (eCall g_again (aCons (eVar 3) (aCons (eVar 6) (aCons (eOp dIx (eVar 8) (eInt 3)) aNil))))))
    (sAsg 9 (eIf (eVar 10) (eVar 6) eNon))))
    (sIf (eNotN (eVar 9)) (sRet (eVar 9)) sNil))))
    (sRet eNon))))
def g_twice_of : GF := fnOf 2 11 F_twice_of
/-- moved_end: 0 end, 1 ticks -/
def F_moved_end : SF :=
    (sRet (eIf (eIsN (eVar 0)) eNon (eOp dAdd (eVar 0) (eVar 1))))
def g_moved_end : GF := fnOf 2 2 F_moved_end
/-- moved_piece: 0 piece, 1 ticks, 2 low, 3 high, 4 word, 5 by -/
def F_moved_piece : SF :=
    (sSeq (sTgt (Mi.tTup [(tName 2), (tName 3), (tName 4), (tName 5)]) (eVar 0))
    (sRet (eTup (aCons (eCall g_moved_end (aCons (eVar 2) (aCons (eVar 1) aNil))) (aCons (eCall g_moved_end (aCons (eVar 3) (aCons (eVar 1) aNil))) (aCons (eVar 4) (aCons (eIf (eOp dEq (eVar 4) (eStr "add")) (eVar 5) (eOp dAdd (eVar 5) (eVar 1))) aNil)))))))
def g_moved_piece : GF := fnOf 2 6 F_moved_piece
/-- with_piece: 0 pieces, 1 piece, 2 below, 3 one -/
def F_with_piece : SF :=
    (sSeq (sIf (eNot (eCall g_is_piece (aCons (eVar 1) aNil))) (sRaise "InvalidPiece") sNil)
    (sSeq (sAsg 2 (eLc [3] (tName 3) (iSeq (eVar 0)) (eAnd (eNotN (eOp dIx (eVar 1) (eInt 0))) (eAnd (eNotN (eOp dIx (eVar 3) (eInt 1))) (eOp dLt (eOp dIx (eVar 3) (eInt 1)) (eOp dIx (eVar 1) (eInt 0))))) (eVar 3)))
    (sRet (eOp dAdd (eOp dAdd (eBlt bTup (aCons (eVar 2) aNil)) (eTup (aCons (eVar 1) aNil))) (eSl dCut (eVar 0) (some (eBlt bLen (aCons (eVar 2) aNil))) none)))))
def g_with_piece : GF := fnOf 2 4 F_with_piece
/-- need_index: 0 pieces, 1 index -/
def F_need_index : SF :=
    (sIf (eNot (eCall g_is_whole (aCons (eVar 1) (aCons (eInt 0) (aCons (eOp dSub (eBlt bLen (aCons (eVar 0) aNil)) (eInt 1)) aNil))))) (sRaise "InvalidIndex") sNil)
def g_need_index : GF := fnOf 2 2 F_need_index
/-- Change____init__: 0 self, 1 pieces -/
def F_Change____init__ : SF :=
    (sSeq (sDrop (eCall g_need_change (aCons (eBlt bTup (aCons (eVar 1) aNil)) aNil)))
    (sFldS "Change" "kept" (eVar 0) (eBlt bTup (aCons (eVar 1) aNil))))
def g_Change____init__ : GF := fnOf 2 2 F_Change____init__
/-- value_of: 0 pieces -/
def F_value_of : SF :=
    (sSeq (sDrop (eCall g_need_change (aCons (eVar 0) aNil)))
    (sRet (eNewStar "Change" g_Change____init__ (eVar 0))))
def g_value_of : GF := fnOf 1 1 F_value_of
/-- Change__pieces: 0 self -/
def F_Change__pieces : SF :=
    (sRet (eFld "Change" "kept" (eVar 0)))
def g_Change__pieces : GF := fnOf 1 1 F_Change__pieces
/-- Change____rshift__: 0 self, 1 ticks, 2 piece -/
def F_Change____rshift__ : SF :=
    (sSeq (sDrop (eCall g_need_worth_d (aCons (eVar 1) aNil)))
    (sRet (eCall g_value_of (aCons (eBlt bTup (aCons (eLc [2] (tName 2) (iSeq (eFld "Change" "kept" (eVar 0))) eYes (eCall g_moved_piece (aCons (eVar 2) (aCons (eVar 1) aNil)))) aNil)) aNil))))
def g_Change____rshift__ : GF := fnOf 2 3 F_Change____rshift__
/-- Change____invert__: 0 self -/
def F_Change____invert__ : SF :=
    (sRet (eCall g_value_of (aCons (eCall g_turned (aCons (eFld "Change" "kept" (eVar 0)) aNil)) aNil)))
def g_Change____invert__ : GF := fnOf 1 1 F_Change____invert__
/-- Change____or__: 0 self, 1 piece -/
def F_Change____or__ : SF :=
    (sRet (eCall g_value_of (aCons (eCall g_with_piece (aCons (eFld "Change" "kept" (eVar 0)) (aCons (eVar 1) aNil))) aNil)))
def g_Change____or__ : GF := fnOf 2 2 F_Change____or__
/-- Change____ior__: 0 self, 1 piece, 2 later -/
def F_Change____ior__ : SF :=
    (sSeq (sAsg 2 (eCall g_with_piece (aCons (eFld "Change" "kept" (eVar 0)) (aCons (eVar 1) aNil))))
    (sSeq (sDrop (eCall g_need_change (aCons (eVar 2) aNil)))
    (sSeq (sFldS "Change" "kept" (eVar 0) (eVar 2))
    (sRet (eVar 0)))))
def g_Change____ior__ : GF := fnOf 2 3 F_Change____ior__
/-- Change____sub__: 0 self, 1 index -/
def F_Change____sub__ : SF :=
    (sSeq (sDrop (eCall g_need_index (aCons (eFld "Change" "kept" (eVar 0)) (aCons (eVar 1) aNil))))
    (sRet (eCall g_value_of (aCons (eOp dAdd (eSl dCut (eFld "Change" "kept" (eVar 0)) none (some (eVar 1))) (eSl dCut (eFld "Change" "kept" (eVar 0)) (some (eOp dAdd (eVar 1) (eInt 1))) none)) aNil))))
def g_Change____sub__ : GF := fnOf 2 2 F_Change____sub__
/-- Change____call__: 0 self, 1 worth -/
def F_Change____call__ : SF :=
    (sSeq (sDrop (eCall g_need_worth_d (aCons (eVar 1) aNil)))
    (sRet (eCall g_changed_by (aCons (eFld "Change" "kept" (eVar 0)) (aCons (eVar 1) aNil)))))
def g_Change____call__ : GF := fnOf 2 2 F_Change____call__
/-- Change____getitem__: 0 self, 1 index -/
def F_Change____getitem__ : SF :=
    (sSeq (sDrop (eCall g_need_index (aCons (eFld "Change" "kept" (eVar 0)) (aCons (eVar 1) aNil))))
    (sRet (eOp dIx (eFld "Change" "kept" (eVar 0)) (eVar 1))))
def g_Change____getitem__ : GF := fnOf 2 2 F_Change____getitem__
/-- Change____contains__: 0 self, 1 value -/
def F_Change____contains__ : SF :=
    (sRet (eAnd (eIsi .int (eVar 1)) (eAnd (eNot (eIsi .bool (eVar 1))) (eNotN (eCall g_piece_of (aCons (eFld "Change" "kept" (eVar 0)) (aCons (eVar 1) aNil)))))))
def g_Change____contains__ : GF := fnOf 2 2 F_Change____contains__
/-- Change____len__: 0 self -/
def F_Change____len__ : SF :=
    (sRet (eBlt bLen (aCons (eFld "Change" "kept" (eVar 0)) aNil)))
def g_Change____len__ : GF := fnOf 1 1 F_Change____len__
/-- first_kept: 0 change -/
def F_first_kept : SF :=
    (sRet (eCall g_twice_of (aCons (eTup (aCons (eVar 0) (aCons (eTup (aCons (eStr "place") aNil)) aNil))) (aCons (eUn dNeg (eInt (100000000000000000000000000000000))) aNil))))
def g_first_kept : GF := fnOf 1 1 F_first_kept
/-- Change____bool__: 0 self -/
def F_Change____bool__ : SF :=
    (sRet (eBlt bBool (aCons (eIsN (eCall g_first_kept (aCons (eFld "Change" "kept" (eVar 0)) aNil))) aNil)))
def g_Change____bool__ : GF := fnOf 1 1 F_Change____bool__
/-- Change____eq__: 0 self, 1 other -/
def F_Change____eq__ : SF :=
    (sRet (eAnd (eIsO "Change" (eVar 1)) (eOp dEq (eFld "Change" "kept" (eVar 0)) (eFld "Change" "kept" (eVar 1)))))
def g_Change____eq__ : GF := fnOf 2 2 F_Change____eq__
/-- Change__like: 0 self, 1 other -/
def F_Change__like : SF :=
    (sSeq (sIf (eNot (eIsO "Change" (eVar 1))) (sRaise "Unlike") sNil)
    (sRet (eIsN (eCall g_first_unlike (aCons (eFld "Change" "kept" (eVar 0)) (aCons (eFld "Change" "kept" (eVar 1)) (aCons (eUn dNeg (eInt (100000000000000000000000000000000))) aNil)))))))
def g_Change__like : GF := fnOf 2 2 F_Change__like
/-- _law_drum: 0 cell, 1 turn, 2 great -/
def F__law_drum : SF :=
    (sSeq (sAsg 2 (eIf (eOp dGe (eVar 0) (eOp dPow (eInt 10) (eInt 18))) (eOp dAdd (eOp dDiv (eVar 0) (eInt 7)) (eOp dMul (eInt 61) (eVar 1))) (eInt 0)))
    (sRet (eLstM (aCons (eVar 2) (aCons (eOp dAdd (eOp dMod (eBlt bInt (aCons (eOp dAdd (eOp dMul (eVar 0) (eInt 97)) (eOp dMul (eInt 1087) (eVar 1))) aNil)) (eInt 2077504273)) (eInt 71)) aNil)))))
def g__law_drum : GF := fnOf 2 3 F__law_drum
/-- _law_roll: 0 drum, 1 many, 2 found, 3 deep -/
def F__law_roll : SF :=
    (sSeq (sIf (eOp dGt (eOp dIx (eVar 0) (eInt 0)) (eInt 0)) (sSeq (sAsg 2 (eOp dMod (eBlt bInt (aCons (eOp dIx (eVar 0) (eInt 0)) aNil)) (eVar 1)))
    (sSeq (sSub (eVar 0) (eInt 0) (eOp dDiv (eOp dIx (eVar 0) (eInt 0)) (eVar 1)))
    (sRet (eVar 2)))) sNil)
    (sSeq (sSub (eVar 0) (eInt 1) (eOp dMod (eBlt bInt (aCons (eOp dAdd (eOp dMul (eOp dIx (eVar 0) (eInt 1)) (eInt 30671)) (eInt 8807)) aNil)) (eInt 2147483549)))
    (sSeq (sAsg 3 (eOp dMod (eBlt bInt (aCons (eOp dMul (eOp dIx (eVar 0) (eInt 1)) (eOp dAdd (eOp dIx (eVar 0) (eInt 1)) (eInt 101))) aNil)) (eInt 2147483587)))
    (sRet (eOp dMod (eBlt bInt (aCons (eOp dDiv (eVar 3) (eInt 613)) aNil)) (eVar 1))))))
def g__law_roll : GF := fnOf 2 4 F__law_roll
/-- _law_some: 0 drum, 1 things -/
def F__law_some : SF :=
    (sRet (eOp dIx (eVar 1) (eCall g__law_roll (aCons (eVar 0) (aCons (eBlt bLen (aCons (eVar 1) aNil)) aNil)))))
def g__law_some : GF := fnOf 2 2 F__law_some
/-- _law_change: 0 drum, 1 most, 2 pieces, 3 low, 4 turn, 5 high, 6 word, 7 by -/
def F__law_change : SF :=
    (sSeq (sPar 2 3 (eLstM aNil) (eOp dAdd (eUn dNeg (eInt 20)) (eCall g__law_roll (aCons (eVar 0) (aCons (eInt 8) aNil)))))
    (sSeq (sFor (tName 4) (iRange1 (eOp dAdd (eInt 1) (eCall g__law_roll (aCons (eVar 0) (aCons (eInt 3) aNil))))) (sSeq (sAsg 5 (eOp dAdd (eVar 3) (eCall g__law_some (aCons (eVar 0) (aCons (eLst (aCons (eInt 0) (aCons (eInt 2) (aCons (eInt 5) (aCons (eInt 9) (aCons (eInt 14) aNil)))))) aNil)))))
    (sSeq (sAsg 6 (eCall g__law_some (aCons (eVar 0) (aCons (eLst (aCons (eStr "add") (aCons (eStr "add") (aCons (eStr "add") (aCons (eStr "set") aNil))))) aNil))))
    (sSeq (sAsg 7 (eIf (eOp dEq (eVar 6) (eStr "add")) (eOp dMul (eCall g__law_some (aCons (eVar 0) (aCons (eLst (aCons (eUn dNeg (eInt 1)) (aCons (eInt 1) (aCons (eInt 1) aNil)))) aNil))) (eOp dAdd (eInt 1) (eCall g__law_roll (aCons (eVar 0) (aCons (eVar 1) aNil))))) (eOp dAdd (eUn dNeg (eInt 22)) (eCall g__law_roll (aCons (eVar 0) (aCons (eInt 64) aNil))))))
    (sSeq (sDrop (eApp (eVar 2) (eTup (aCons (eVar 3) (aCons (eVar 5) (aCons (eVar 6) (aCons (eVar 7) aNil)))))))
    (sAsg 3 (eOp dAdd (eOp dAdd (eVar 5) (eInt 1)) (eCall g__law_some (aCons (eVar 0) (aCons (eLst (aCons (eInt 0) (aCons (eInt 0) (aCons (eInt 1) (aCons (eInt 4) aNil))))) aNil))))))))))
    (sSeq (sIf (eOp dEq (eCall g__law_roll (aCons (eVar 0) (aCons (eInt 6) aNil))) (eInt 0)) (sSub (eVar 2) (eInt 0) (eOp dAdd (eTup (aCons eNon aNil)) (eSl dCut (eOp dIx (eVar 2) (eInt 0)) (some (eInt 1)) none))) sNil)
    (sSeq (sIf (eOp dEq (eCall g__law_roll (aCons (eVar 0) (aCons (eInt 6) aNil))) (eInt 0)) (sSub (eVar 2) (eUn dNeg (eInt 1)) (eOp dAdd (eTup (aCons (eOp dIx (eOp dIx (eVar 2) (eUn dNeg (eInt 1))) (eInt 0)) (aCons eNon aNil))) (eSl dCut (eOp dIx (eVar 2) (eUn dNeg (eInt 1))) (some (eInt 2)) none))) sNil)
    (sRet (eBlt bTup (aCons (eVar 2) aNil)))))))
def g__law_change : GF := fnOf 2 8 F__law_change
/-- _law_has: 0 low, 1 high, 2 worth -/
def F__law_has : SF :=
    (sRet (eAnd (eOr (eIsN (eVar 0)) (eOp dLe (eVar 0) (eVar 2))) (eOr (eIsN (eVar 1)) (eOp dLe (eVar 2) (eVar 1)))))
def g__law_has : GF := fnOf 3 3 F__law_has
/-- _law_piece: 0 change_so, 1 worth, 2 piece -/
def F__law_piece : SF :=
    (sSeq (sFor (tName 2) (iSeq (eVar 0)) (sIf (eCall g__law_has (aCons (eOp dIx (eVar 2) (eInt 0)) (aCons (eOp dIx (eVar 2) (eInt 1)) (aCons (eVar 1) aNil)))) (sRet (eVar 2)) sNil))
    (sRet eNon))
def g__law_piece : GF := fnOf 2 3 F__law_piece
/-- _law_changed: 0 change_so, 1 worth, 2 piece -/
def F__law_changed : SF :=
    (sSeq (sAsg 2 (eCall g__law_piece (aCons (eVar 0) (aCons (eVar 1) aNil))))
    (sSeq (sIf (eIsN (eVar 2)) (sRet (eVar 1)) sNil)
    (sRet (eIf (eOp dEq (eOp dIx (eVar 2) (eInt 2)) (eStr "add")) (eOp dAdd (eVar 1) (eOp dIx (eVar 2) (eInt 3))) (eOp dIx (eVar 2) (eInt 3))))))
def g__law_changed : GF := fnOf 2 3 F__law_changed
/-- _law_value: 0 pieces -/
def F__law_value : SF :=
    (sSeq (sIf (eOp dEq (eBlt bLen (aCons (eVar 0) aNil)) (eInt 1)) (sRet (eNewS "Change" g_Change____init__ (aCons (eOp dIx (eVar 0) (eInt 0)) aNil))) sNil)
    (sSeq (sIf (eOp dEq (eBlt bLen (aCons (eVar 0) aNil)) (eInt 2)) (sRet (eNewS "Change" g_Change____init__ (aCons (eOp dIx (eVar 0) (eInt 0)) (aCons (eOp dIx (eVar 0) (eInt 1)) aNil)))) sNil)
    (sSeq (sIf (eOp dEq (eBlt bLen (aCons (eVar 0) aNil)) (eInt 3)) (sRet (eNewS "Change" g_Change____init__ (aCons (eOp dIx (eVar 0) (eInt 0)) (aCons (eOp dIx (eVar 0) (eInt 1)) (aCons (eOp dIx (eVar 0) (eInt 2)) aNil))))) sNil)
    (sRet (eNewS "Change" g_Change____init__ (aCons (eOp dIx (eVar 0) (eInt 0)) (aCons (eOp dIx (eVar 0) (eInt 1)) (aCons (eOp dIx (eVar 0) (eInt 2)) (aCons (eOp dIx (eVar 0) (eInt 3)) aNil)))))))))
def g__law_value : GF := fnOf 1 1 F__law_value
/-- _law_moved: 0 change_so, 1 ticks, 2 found, 3 low, 4 high, 5 word, 6 by -/
def F__law_moved : SF :=
    (sSeq (sAsg 2 (eLstM aNil))
    (sSeq (sFor (Mi.tTup [(tName 3), (tName 4), (tName 5), (tName 6)]) (iSeq (eVar 0)) (sSeq (sAsg 3 (eIf (eIsN (eVar 3)) eNon (eOp dAdd (eVar 3) (eVar 1))))
    (sSeq (sAsg 4 (eIf (eIsN (eVar 4)) eNon (eOp dAdd (eVar 4) (eVar 1))))
    (sDrop (eApp (eVar 2) (eTup (aCons (eVar 3) (aCons (eVar 4) (aCons (eVar 5) (aCons (eIf (eOp dEq (eVar 5) (eStr "add")) (eVar 6) (eOp dAdd (eVar 6) (eVar 1))) aNil))))))))))
    (sRet (eBlt bTup (aCons (eVar 2) aNil)))))
def g__law_moved : GF := fnOf 2 7 F__law_moved
/-- _law_turned: 0 change_so, 1 found, 2 low, 3 high, 4 word, 5 by -/
def F__law_turned : SF :=
    (sSeq (sAsg 1 (eLst aNil))
    (sSeq (sFor (Mi.tTup [(tName 2), (tName 3), (tName 4), (tName 5)]) (iSeq (eVar 0)) (sAsg 1 (eOp dAdd (eLst (aCons (eTup (aCons (eIf (eIsN (eVar 3)) eNon (eUn dNeg (eVar 3))) (aCons (eIf (eIsN (eVar 2)) eNon (eUn dNeg (eVar 2))) (aCons (eVar 4) (aCons (eUn dNeg (eVar 5)) aNil))))) aNil)) (eVar 1))))
    (sRet (eBlt bTup (aCons (eVar 1) aNil)))))
def g__law_turned : GF := fnOf 1 6 F__law_turned
/-- _law_settles: 0 change_so, 1 worth, 2 goal -/
def F__law_settles : SF :=
    (sSeq (sFor (tName 1) (iRange2 (eUn dNeg (eInt 90)) (eInt 120)) (sSeq (sAsg 2 (eCall g__law_changed (aCons (eVar 0) (aCons (eVar 1) aNil))))
    (sIf (eAnd (eNotN (eCall g__law_piece (aCons (eVar 0) (aCons (eVar 1) aNil)))) (eNotN (eCall g__law_piece (aCons (eVar 0) (aCons (eVar 2) aNil))))) (sRet (eBl false)) sNil)))
    (sRet (eBl true)))
def g__law_settles : GF := fnOf 1 3 F__law_settles
/-- _law_taken: 0 value, 1 piece, 2 e -/
def F__law_taken : SF :=
    (sSeq (sTryN (nmC clsL) (L3.sAugM "Change" g_Change____ior__ 0 (eVar 1)))
    (sRet (eStr "")))
def g__law_taken : GF := fnOf 2 3 F__law_taken
/-- _law_more_right: 0 change_so, 1 piece, 2 value, 3 below, 4 above, 5 apart, 6 due, 7 one -/
def F__law_more_right : SF :=
    (sSeq (sAsg 2 (eCall g__law_value (aCons (eVar 0) aNil)))
    (sSeq (sAsg 3 (eBlt bTup (aCons (eLc [7] (tName 7) (iSeq (eVar 0)) (eAnd (eNotN (eOp dIx (eVar 7) (eInt 1))) (eOp dLt (eOp dIx (eVar 7) (eInt 1)) (eOp dIx (eVar 1) (eInt 0)))) (eVar 7)) aNil)))
    (sSeq (sAsg 4 (eBlt bTup (aCons (eLc [7] (tName 7) (iSeq (eVar 0)) (eAnd (eNotN (eOp dIx (eVar 7) (eInt 0))) (eOp dGt (eOp dIx (eVar 7) (eInt 0)) (eOp dIx (eVar 1) (eInt 1)))) (eVar 7)) aNil)))
    (sSeq (sAsg 5 (eOp dEq (eOp dAdd (eBlt bLen (aCons (eVar 3) aNil)) (eBlt bLen (aCons (eVar 4) aNil))) (eBlt bLen (aCons (eVar 0) aNil))))
    (sSeq (sAsg 6 (eIf (eAnd (eVar 5) (eOp dLt (eBlt bLen (aCons (eVar 0) aNil)) (eInt 4))) (eOp dAdd (eOp dAdd (eVar 3) (eTup (aCons (eVar 1) aNil))) (eVar 4)) (eStr "change value")))
    (sSeq (sIf (eOp dNe (eOut "Change" g_Change__pieces (nmC clsL) (eBinM "Change" g_Change____or__ (eVar 2) (eVar 1))) (eVar 6)) (sRet (eBl false)) sNil)
    (sSeq (sIf (eOp dNe (eCall g__law_taken (aCons (eVar 2) (aCons (eVar 1) aNil))) (eIf (eOp dNe (eVar 6) (eStr "change value")) (eStr "") (eVar 6))) (sRet (eBl false)) sNil)
    (sRet (eOp dEq (eProp "Change" g_Change__pieces (eVar 2)) (eIf (eOp dNe (eVar 6) (eStr "change value")) (eVar 6) (eVar 0)))))))))))
def g__law_more_right : GF := fnOf 2 8 F__law_more_right
/-- _law_bad_right: 0 value, 1 one, 2 odd, 3 heard -/
def F__law_bad_right : SF :=
    (sSeq (sFor (tName 2) (iSeq (eTup (aCons eNon (aCons (eTup aNil) (aCons (eVar 1) (aCons (eTup (aCons (eInt 0) (aCons (eInt 9) (aCons (eStr "add") (aCons (eInt 0) aNil))))) (aCons (eTup (aCons (eInt 0) (aCons (eInt 9) (aCons (eStr "Add") (aCons (eInt 1) aNil))))) (aCons (eLst (aCons (eInt 0) (aCons (eInt 9) (aCons (eStr "add") (aCons (eInt 1) aNil))))) (aCons (eTup (aCons (eInt 9) (aCons (eInt 0) (aCons (eStr "add") (aCons (eInt 1) aNil))))) aNil))))))))) (sIf (eOr (eOp dNe (eTry (nmC clsL) (eBinM "Change" g_Change____or__ (eVar 0) (eVar 2))) (eStr "piece value")) (eOp dNe (eCall g__law_taken (aCons (eVar 0) (aCons (eVar 2) aNil))) (eStr "piece value"))) (sRet (eBl false)) sNil))
    (sSeq (sFor (tName 2) (iSeq (eTup (aCons eNon (aCons (eBl true) (aCons (eUn dNeg (eInt 1)) (aCons (eBlt bLen (aCons (eVar 1) aNil)) (aCons (eStr "0") aNil))))))) (sSeq (sAsg 3 (eLstM (aCons (eTry (nmC clsL) (eBinM "Change" g_Change____sub__ (eVar 0) (eVar 2))) aNil)))
    (sSeq (sDrop (eApp (eVar 3) (eTry (nmC clsL) (eBinM "Change" g_Change____getitem__ (eVar 0) (eVar 2)))))
    (sIf (eOp dNe (eVar 3) (eOp dMul (eLst (aCons (eStr "index value") aNil)) (eInt 2))) (sRet (eBl false)) sNil))))
    (sSeq (sFor (tName 2) (iSeq (eTup (aCons eNon (aCons (eBl true) (aCons (eOp dAdd (eOp dPow (eInt 10) (eInt 30)) (eInt 1)) (aCons (eStr "0") aNil)))))) (sSeq (sAsg 3 (eLstM (aCons (eTry (nmC clsL) (eBinM "Change" g_Change____rshift__ (eVar 0) (eVar 2))) aNil)))
    (sSeq (sDrop (eApp (eVar 3) (eTry (nmC clsL) (eCalM "Change" g_Change____call__ (eVar 0) (aCons (eVar 2) aNil)))))
    (sIf (eOp dNe (eVar 3) (eOp dMul (eLst (aCons (eStr "worth value") aNil)) (eInt 2))) (sRet (eBl false)) sNil))))
    (sSeq (sIf (eOp dNe (eLc [2] (tName 2) (iSeq (eTup (aCons eNon (aCons (eVar 1) (aCons (eInt 1) aNil))))) eYes (eTry (nmC clsL) (eMeth "Change" "like" g_Change__like (eVar 0) (aCons (eVar 2) aNil)))) (eOp dMul (eLst (aCons (eStr "unlike value") aNil)) (eInt 3))) (sRet (eBl false)) sNil)
    (sRet (eOp dEq (eProp "Change" g_Change__pieces (eVar 0)) (eVar 1)))))))
def g__law_bad_right : GF := fnOf 2 4 F__law_bad_right
/-- law: 0 script, 1 cell, 2 drum, 3 one, 4 other, 5 value, 6 second, 7 ticks, 8 worth, 9 at, 10 due, 11 low, 12 alike_so, 13 same, 14 found, 15 far -/
def F_law : SF :=
    (sSeq (sFor (tName 1) (iSeq (eSl dCut (eOp dAdd (eLst (aCons (eInt 0) aNil)) (eVar 0)) none (some (eInt 8)))) (sSeq (sAsg 2 (eCall g__law_drum (aCons (eVar 1) (aCons (eInt 9) aNil))))
    (sSeq (sPar 3 4 (eCall g__law_change (aCons (eVar 2) (aCons (eInt 9) aNil))) (eCall g__law_change (aCons (eVar 2) (aCons (eInt 9) aNil))))
    (sSeq (sPar 5 6 (eCall g__law_value (aCons (eVar 3) aNil)) (eCall g__law_value (aCons (eVar 4) aNil)))
    (sSeq (sAsg 7 (eOp dSub (eCall g__law_roll (aCons (eVar 2) (aCons (eInt 99) aNil))) (eInt 50)))
    (sSeq (sIf (eOp dNe (eLst (aCons (eProp "Change" g_Change__pieces (eVar 5)) (aCons (eProp "Change" g_Change__pieces (eBinM "Change" g_Change____rshift__ (eVar 5) (eVar 7))) (aCons (eProp "Change" g_Change__pieces (eUnM "Change" g_Change____invert__ (eVar 5))) aNil)))) (eLst (aCons (eVar 3) (aCons (eCall g__law_moved (aCons (eVar 3) (aCons (eVar 7) aNil))) (aCons (eCall g__law_turned (aCons (eVar 3) aNil)) aNil))))) (sRet (eBl false)) sNil)
    (sSeq (sIf (eOr (eOp dNe (eLc [9] (tName 9) (iRange1 (eBlt bLen (aCons (eVar 3) aNil))) eYes (eBinM "Change" g_Change____getitem__ (eVar 5) (eVar 9))) (eBlt bLst (aCons (eVar 3) aNil))) (eOp dNe (eLenM "Change" g_Change____len__ (eVar 5)) (eBlt bLen (aCons (eVar 3) aNil)))) (sRet (eBl false)) sNil)
    (sSeq (sFor (tName 8) (iRange2 (eUn dNeg (eInt 30)) (eInt 60)) (sIf (eOr (eOp dNe (eCalM "Change" g_Change____call__ (eVar 5) (aCons (eVar 8) aNil)) (eCall g__law_changed (aCons (eVar 3) (aCons (eVar 8) aNil)))) (eOp dNe (eInM "Change" g_Change____contains__ false (eVar 8) (eVar 5)) (eNotN (eCall g__law_piece (aCons (eVar 3) (aCons (eVar 8) aNil)))))) (sRet (eBl false)) sNil))
    (sSeq (sIf (eOr (eOp dNe (eTruM "Change" g_Change____bool__ (eVar 5)) (eCall g__law_settles (aCons (eVar 3) aNil))) (eOr (eInM "Change" g_Change____contains__ false eNon (eVar 5)) (eOr (eInM "Change" g_Change____contains__ false (eStr "0") (eVar 5)) (eOr (eInM "Change" g_Change____contains__ false (eBl true) (eVar 5)) (eInM "Change" g_Change____contains__ false (eOp dIx (eVar 3) (eInt 0)) (eVar 5)))))) (sRet (eBl false)) sNil)
    (sSeq (sFor (tName 9) (iRange1 (eBlt bLen (aCons (eVar 3) aNil))) (sSeq (sAsg 10 (eOp dAdd (eSl dCut (eVar 3) none (some (eVar 9))) (eSl dCut (eVar 3) (some (eOp dAdd (eVar 9) (eInt 1))) none)))
    (sIf (eOp dNe (eOut "Change" g_Change__pieces (nmC clsL) (eBinM "Change" g_Change____sub__ (eVar 5) (eVar 9))) (eIf (eOp dNe (eVar 10) (eTup aNil)) (eVar 10) (eStr "change value"))) (sRet (eBl false)) sNil)))
    (sSeq (sAsg 11 (eOp dAdd (eUn dNeg (eInt 30)) (eCall g__law_roll (aCons (eVar 2) (aCons (eInt 90) aNil)))))
    (sSeq (sIf (eOr (eNot (eCall g__law_more_right (aCons (eVar 3) (aCons (eTup (aCons (eVar 11) (aCons (eOp dAdd (eVar 11) (eCall g__law_roll (aCons (eVar 2) (aCons (eInt 9) aNil)))) (aCons (eStr "set") (aCons (eInt 3) aNil))))) aNil)))) (eNot (eCall g__law_bad_right (aCons (eVar 5) (aCons (eVar 3) aNil))))) (sRet (eBl false)) sNil)
    (sSeq (sAsg 12 (eOp dEq (eLc [8] (tName 8) (iRange2 (eUn dNeg (eInt 90)) (eInt 120)) (eOp dNe (eCall g__law_changed (aCons (eVar 3) (aCons (eVar 8) aNil))) (eCall g__law_changed (aCons (eVar 4) (aCons (eVar 8) aNil)))) (eVar 8)) (eLst aNil)))
    (sSeq (sIf (eOr (eOp dNe (eMeth "Change" "like" g_Change__like (eVar 5) (aCons (eVar 6) aNil)) (eVar 12)) (eOr (eOp dNe (eEqM "Change" g_Change____eq__ (eVar 5) (eVar 6)) (eOp dEq (eVar 3) (eVar 4))) (eNot (eMeth "Change" "like" g_Change__like (eVar 5) (aCons (eCall g__law_value (aCons (eVar 3) aNil)) aNil))))) (sRet (eBl false)) sNil)
    (sIf (eOr (eEqM "Change" g_Change____eq__ (eVar 5) (eVar 3)) (eNeM "Change" g_Change____eq__ (eCall g__law_value (aCons (eVar 3) aNil)) (eVar 5))) (sRet (eBl false)) sNil)))))))))))))))
    (sSeq (sAsg 13 (eTup (aCons (eInt 0) (aCons (eInt 9) (aCons (eStr "add") (aCons (eInt 1) aNil))))))
    (sSeq (sAsg 14 (eLstM (aCons (eTry (nmC clsL) (eNewS "Change" g_Change____init__ aNil)) (aCons (eStr "") (aCons (eStr "") (aCons (eStr "") aNil))))))
    (sSeq (sSub (eVar 14) (eInt 1) (eTry (nmC clsL) (eNewS "Change" g_Change____init__ (aCons eNon aNil))))
    (sSeq (sSub (eVar 14) (eInt 2) (eTry (nmC clsL) (eNewS "Change" g_Change____init__ (aCons (eVar 13) (aCons (eVar 13) aNil)))))
    (sSeq (sSub (eVar 14) (eInt 3) (eTry (nmC clsL) (eNewS "Change" g_Change____init__ (aCons (eTup (aCons (eInt 1) (aCons (eInt 1) (aCons (eStr "set") (aCons (eInt 0) aNil))))) (aCons (eTup (aCons (eInt 2) (aCons (eInt 2) (aCons (eStr "set") (aCons (eInt 0) aNil))))) (aCons (eTup (aCons (eInt 3) (aCons (eInt 3) (aCons (eStr "set") (aCons (eInt 0) aNil))))) (aCons (eTup (aCons (eInt 4) (aCons (eInt 4) (aCons (eStr "set") (aCons (eInt 0) aNil))))) (aCons (eVar 13) aNil))))))))
    (sSeq (sIf (eOp dNe (eVar 14) (eOp dMul (eLst (aCons (eStr "change value") aNil)) (eInt 4))) (sRet (eBl false)) sNil)
    (sSeq (sAsg 15 (eNewS "Change" g_Change____init__ (aCons (eTup (aCons (eOp dPow (eInt 10) (eInt 30)) (aCons eNon (aCons (eStr "add") (aCons (eInt 1) aNil))))) aNil)))
    (sSeq (sIf (eOr (eOp dNe (eTry (nmC clsL) (eBinM "Change" g_Change____rshift__ (eVar 15) (eInt 1))) (eStr "change value")) (eOp dNe (eProp "Change" g_Change__pieces (eBinM "Change" g_Change____rshift__ (eVar 15) (eUn dNeg (eInt 1)))) (eTup (aCons (eTup (aCons (eOp dSub (eOp dPow (eInt 10) (eInt 30)) (eInt 1)) (aCons eNon (aCons (eStr "add") (aCons (eInt 1) aNil))))) aNil)))) (sRet (eBl false)) sNil)
    (sRet (eAnd (eOp dEq (eInt (4)) (eInt 4)) (eAnd (eOp dIsB (eTruM "Change" g_Change____bool__ (eNewS "Change" g_Change____init__ (aCons (eTup (aCons (eInt 0) (aCons (eInt 9) (aCons (eStr "add") (aCons (eInt 10) aNil))))) aNil))) (eBl true)) (eAnd (eInM "Change" g_Change____contains__ false (eOp dPow (eInt 10) (eInt 39)) (eVar 15)) (eInM "Change" g_Change____contains__ true (eUn dNeg (eOp dPow (eInt 10) (eInt 39))) (eVar 15)))))))))))))))
def g_law : GF := fnOf 1 16 F_law
end Mir

set_option linter.all false
set_option Elab.async false
set_option maxRecDepth 100000
set_option maxHeartbeats 0
/-! The head (printed by gen.py). -/
namespace Wlk
open PySem PySem.Spec PyProof.Rows L2 Mi L3 Mir
def topS (i : Nat) : Stmt := PySem.Challenge.pw_metagain_k14_changes_as_values.main.body.getD i (.Pass ⟨0, 0, 0, 0⟩)
def bodyC : Stmt → List Stmt
  | .ClassDef (body := b) .. => b
  | _ => []
def clsM (i j : Nat) : Stmt := (bodyC (topS i)).getD j (.Pass ⟨0, 0, 0, 0⟩)
end Wlk
namespace Hd
open PySem PySem.Spec PyProof.Rows L2 Mi L3 Mir Wlk
def D_is_whole : He.DefD := ⟨("is_whole", none), "is_whole", "is_whole", defArgs (topS 21), defBody (topS 21), defScope (topS 21), [], []⟩
def D_is_end : He.DefD := ⟨("is_end", none), "is_end", "is_end", defArgs (topS 22), defBody (topS 22), defScope (topS 22), [], []⟩
def D_are_ends : He.DefD := ⟨("are_ends", none), "are_ends", "are_ends", defArgs (topS 23), defBody (topS 23), defScope (topS 23), [], []⟩
def D_is_piece : He.DefD := ⟨("is_piece", none), "is_piece", "is_piece", defArgs (topS 24), defBody (topS 24), defScope (topS 24), [], []⟩
def D_are_apart : He.DefD := ⟨("are_apart", none), "are_apart", "are_apart", defArgs (topS 25), defBody (topS 25), defScope (topS 25), [], []⟩
def D_fits_change : He.DefD := ⟨("fits_change", none), "fits_change", "fits_change", defArgs (topS 26), defBody (topS 26), defScope (topS 26), [], []⟩
def D_need_change : He.DefD := ⟨("need_change", none), "need_change", "need_change", defArgs (topS 27), defBody (topS 27), defScope (topS 27), [], []⟩
def D_need_worth : He.DefD := ⟨("need_worth", none), "need_worth", "need_worth", defArgs (topS 28), defBody (topS 28), defScope (topS 28), [.int (-1000000000000000000000000000000)], []⟩
def D_floor_of : He.DefD := ⟨("floor_of", none), "floor_of", "floor_of", defArgs (topS 29), defBody (topS 29), defScope (topS 29), [], []⟩
def D_top_of : He.DefD := ⟨("top_of", none), "top_of", "top_of", defArgs (topS 30), defBody (topS 30), defScope (topS 30), [], []⟩
def D_has : He.DefD := ⟨("has", none), "has", "has", defArgs (topS 31), defBody (topS 31), defScope (topS 31), [], []⟩
def D_piece_of : He.DefD := ⟨("piece_of", none), "piece_of", "piece_of", defArgs (topS 32), defBody (topS 32), defScope (topS 32), [], []⟩
def D_made : He.DefD := ⟨("made", none), "made", "made", defArgs (topS 33), defBody (topS 33), defScope (topS 33), [], []⟩
def D_changed_by : He.DefD := ⟨("changed_by", none), "changed_by", "changed_by", defArgs (topS 34), defBody (topS 34), defScope (topS 34), [], []⟩
def D_parts_of : He.DefD := ⟨("parts_of", none), "parts_of", "parts_of", defArgs (topS 35), defBody (topS 35), defScope (topS 35), [], []⟩
def D_unlike_in : He.DefD := ⟨("unlike_in", none), "unlike_in", "unlike_in", defArgs (topS 36), defBody (topS 36), defScope (topS 36), [], []⟩
def D_first_unlike : He.DefD := ⟨("first_unlike", none), "first_unlike", "first_unlike", defArgs (topS 37), defBody (topS 37), defScope (topS 37), [], []⟩
def D_turned_end : He.DefD := ⟨("turned_end", none), "turned_end", "turned_end", defArgs (topS 39), defBody (topS 39), defScope (topS 39), [], []⟩
def D_turned : He.DefD := ⟨("turned", none), "turned", "turned", defArgs (topS 40), defBody (topS 40), defScope (topS 40), [], []⟩
def D_again : He.DefD := ⟨("again", none), "again", "again", defArgs (topS 41), defBody (topS 41), defScope (topS 41), [], []⟩
def D_met_part : He.DefD := ⟨("met_part", none), "met_part", "met_part", defArgs (topS 43), defBody (topS 43), defScope (topS 43), [], []⟩
def D_twice_added : He.DefD := ⟨("twice_added", none), "twice_added", "twice_added", defArgs (topS 46), defBody (topS 46), defScope (topS 46), [], []⟩
def D_has_piece : He.DefD := ⟨("has_piece", none), "has_piece", "has_piece", defArgs (topS 45), defBody (topS 45), defScope (topS 45), [], []⟩
def D_twice_of : He.DefD := ⟨("twice_of", none), "twice_of", "twice_of", defArgs (topS 44), defBody (topS 44), defScope (topS 44), [], []⟩
def D_moved_end : He.DefD := ⟨("moved_end", none), "moved_end", "moved_end", defArgs (topS 48), defBody (topS 48), defScope (topS 48), [], []⟩
def D_moved_piece : He.DefD := ⟨("moved_piece", none), "moved_piece", "moved_piece", defArgs (topS 49), defBody (topS 49), defScope (topS 49), [], []⟩
def D_with_piece : He.DefD := ⟨("with_piece", none), "with_piece", "with_piece", defArgs (topS 50), defBody (topS 50), defScope (topS 50), [], []⟩
def D_need_index : He.DefD := ⟨("need_index", none), "need_index", "need_index", defArgs (topS 51), defBody (topS 51), defScope (topS 51), [], []⟩
def D_Change____init__ : He.DefD := ⟨("Change", some "__init__"), "__init__", "Change.__init__", defArgs (clsM 53 1), defBody (clsM 53 1), defScope (clsM 53 1), [], []⟩
def D_value_of : He.DefD := ⟨("value_of", none), "value_of", "value_of", defArgs (topS 52), defBody (topS 52), defScope (topS 52), [], []⟩
def P_Change__pieces : PrD := ⟨"Change", "pieces", "Change.pieces", defArgs (clsM 53 2), defBody (clsM 53 2), defScope (clsM 53 2)⟩
def D_Change____rshift__ : He.DefD := ⟨("Change", some "__rshift__"), "__rshift__", "Change.__rshift__", defArgs (clsM 53 3), defBody (clsM 53 3), defScope (clsM 53 3), [], []⟩
def D_Change____invert__ : He.DefD := ⟨("Change", some "__invert__"), "__invert__", "Change.__invert__", defArgs (clsM 53 4), defBody (clsM 53 4), defScope (clsM 53 4), [], []⟩
def D_Change____or__ : He.DefD := ⟨("Change", some "__or__"), "__or__", "Change.__or__", defArgs (clsM 53 5), defBody (clsM 53 5), defScope (clsM 53 5), [], []⟩
def D_Change____ior__ : He.DefD := ⟨("Change", some "__ior__"), "__ior__", "Change.__ior__", defArgs (clsM 53 6), defBody (clsM 53 6), defScope (clsM 53 6), [], []⟩
def D_Change____sub__ : He.DefD := ⟨("Change", some "__sub__"), "__sub__", "Change.__sub__", defArgs (clsM 53 7), defBody (clsM 53 7), defScope (clsM 53 7), [], []⟩
def D_Change____call__ : He.DefD := ⟨("Change", some "__call__"), "__call__", "Change.__call__", defArgs (clsM 53 8), defBody (clsM 53 8), defScope (clsM 53 8), [], []⟩
def D_Change____getitem__ : He.DefD := ⟨("Change", some "__getitem__"), "__getitem__", "Change.__getitem__", defArgs (clsM 53 9), defBody (clsM 53 9), defScope (clsM 53 9), [], []⟩
def D_Change____contains__ : He.DefD := ⟨("Change", some "__contains__"), "__contains__", "Change.__contains__", defArgs (clsM 53 10), defBody (clsM 53 10), defScope (clsM 53 10), [], []⟩
def D_Change____len__ : He.DefD := ⟨("Change", some "__len__"), "__len__", "Change.__len__", defArgs (clsM 53 11), defBody (clsM 53 11), defScope (clsM 53 11), [], []⟩
def D_first_kept : He.DefD := ⟨("first_kept", none), "first_kept", "first_kept", defArgs (topS 54), defBody (topS 54), defScope (topS 54), [], []⟩
def D_Change____bool__ : He.DefD := ⟨("Change", some "__bool__"), "__bool__", "Change.__bool__", defArgs (clsM 53 12), defBody (clsM 53 12), defScope (clsM 53 12), [], []⟩
def D_Change____eq__ : He.DefD := ⟨("Change", some "__eq__"), "__eq__", "Change.__eq__", defArgs (clsM 53 14), defBody (clsM 53 14), defScope (clsM 53 14), [], []⟩
def D_Change__like : He.DefD := ⟨("Change", some "like"), "like", "Change.like", defArgs (clsM 53 15), defBody (clsM 53 15), defScope (clsM 53 15), [], []⟩
def D__law_drum : He.DefD := ⟨("_law_drum", none), "_law_drum", "_law_drum", defArgs (topS 56), defBody (topS 56), defScope (topS 56), [], []⟩
def D__law_roll : He.DefD := ⟨("_law_roll", none), "_law_roll", "_law_roll", defArgs (topS 57), defBody (topS 57), defScope (topS 57), [], []⟩
def D__law_some : He.DefD := ⟨("_law_some", none), "_law_some", "_law_some", defArgs (topS 58), defBody (topS 58), defScope (topS 58), [], []⟩
def D__law_change : He.DefD := ⟨("_law_change", none), "_law_change", "_law_change", defArgs (topS 59), defBody (topS 59), defScope (topS 59), [], []⟩
def D__law_has : He.DefD := ⟨("_law_has", none), "_law_has", "_law_has", defArgs (topS 60), defBody (topS 60), defScope (topS 60), [], []⟩
def D__law_piece : He.DefD := ⟨("_law_piece", none), "_law_piece", "_law_piece", defArgs (topS 61), defBody (topS 61), defScope (topS 61), [], []⟩
def D__law_changed : He.DefD := ⟨("_law_changed", none), "_law_changed", "_law_changed", defArgs (topS 62), defBody (topS 62), defScope (topS 62), [], []⟩
def D__law_names : He.DefD := ⟨("_law_names", none), "_law_names", "_law_names", defArgs (topS 63), defBody (topS 63), defScope (topS 63), [], []⟩
def D__law_error : He.DefD := ⟨("_law_error", none), "_law_error", "_law_error", defArgs (topS 64), defBody (topS 64), defScope (topS 64), [], []⟩
def D__law_value : He.DefD := ⟨("_law_value", none), "_law_value", "_law_value", defArgs (topS 65), defBody (topS 65), defScope (topS 65), [], []⟩
def D__law_moved : He.DefD := ⟨("_law_moved", none), "_law_moved", "_law_moved", defArgs (topS 66), defBody (topS 66), defScope (topS 66), [], []⟩
def D__law_turned : He.DefD := ⟨("_law_turned", none), "_law_turned", "_law_turned", defArgs (topS 67), defBody (topS 67), defScope (topS 67), [], []⟩
def D__law_settles : He.DefD := ⟨("_law_settles", none), "_law_settles", "_law_settles", defArgs (topS 68), defBody (topS 68), defScope (topS 68), [], []⟩
def D__law_outcome : He.DefD := ⟨("_law_outcome", none), "_law_outcome", "_law_outcome", defArgs (topS 69), defBody (topS 69), defScope (topS 69), [], []⟩
def D__law_taken : He.DefD := ⟨("_law_taken", none), "_law_taken", "_law_taken", defArgs (topS 70), defBody (topS 70), defScope (topS 70), [], []⟩
def D__law_more_right : He.DefD := ⟨("_law_more_right", none), "_law_more_right", "_law_more_right", defArgs (topS 71), defBody (topS 71), defScope (topS 71), [], []⟩
def D__law_bad_right : He.DefD := ⟨("_law_bad_right", none), "_law_bad_right", "_law_bad_right", defArgs (topS 72), defBody (topS 72), defScope (topS 72), [], []⟩
def D_law : He.DefD := ⟨("law", none), "law", "law", defArgs (topS 73), defBody (topS 73), defScope (topS 73), [], []⟩
def fn : List He.DefD := ([D_is_whole, D_is_end, D_are_ends, D_is_piece, D_are_apart, D_fits_change, D_need_change, D_need_worth, D_floor_of, D_top_of, D_has, D_piece_of, D_made, D_changed_by, D_parts_of, D_unlike_in, D_first_unlike, D_turned_end, D_turned, D_again] : List He.DefD) ++ ([D_met_part, D_twice_added, D_has_piece, D_twice_of, D_moved_end, D_moved_piece, D_with_piece, D_need_index, D_Change____init__, D_value_of, D_Change____rshift__, D_Change____invert__, D_Change____or__, D_Change____ior__, D_Change____sub__, D_Change____call__, D_Change____getitem__, D_Change____contains__, D_Change____len__, D_first_kept] : List He.DefD) ++ ([D_Change____bool__, D_Change____eq__, D_Change__like, D__law_drum, D__law_roll, D__law_some, D__law_change, D__law_has, D__law_piece, D__law_changed, D__law_names, D__law_error, D__law_value, D__law_moved, D__law_turned, D__law_settles, D__law_outcome, D__law_taken, D__law_more_right, D__law_bad_right] : List He.DefD) ++ ([D_law] : List He.DefD)
def pr : List PrD := ([P_Change__pieces] : List PrD)
def qr : List QrD := []
def fa : List He.Fa := ([.glo "is_whole", .glo "is_end", .glo "are_ends", .glo "is_piece", .glo "are_apart", .glo "fits_change", .glo "need_change", .glo "need_worth", .glo "floor_of", .glo "top_of", .glo "has", .glo "piece_of", .glo "made", .glo "changed_by", .glo "parts_of", .glo "unlike_in", .glo "first_unlike", .glo "turned_end", .glo "turned", .glo "again"] : List He.Fa) ++ ([.glo "met_part", .glo "twice_added", .glo "has_piece", .glo "twice_of", .glo "moved_end", .glo "moved_piece", .glo "with_piece", .glo "need_index", .glo "value_of", .glo "first_kept", .glo "_law_drum", .glo "_law_roll", .glo "_law_some", .glo "_law_change", .glo "_law_has", .glo "_law_piece", .glo "_law_changed", .glo "_law_names", .glo "_law_error", .glo "_law_value"] : List He.Fa) ++ ([.glo "_law_moved", .glo "_law_turned", .glo "_law_settles", .glo "_law_outcome", .glo "_law_taken", .glo "_law_more_right", .glo "_law_bad_right", .glo "law", .glo "InvalidChange", .glo "InvalidPiece", .glo "InvalidStatement", .glo "InvalidWorth", .glo "InvalidNumber", .glo "InvalidOrder", .glo "InvalidPrices", .glo "InvalidPairs", .glo "InvalidText", .glo "InvalidIndex", .glo "InvalidRow", .glo "InvalidTable"] : List He.Fa) ++ ([.glo "Unlike", .glo "Done", .glo "NothingToUndo", .glo "TooMany", .glo "WalkError", .glo "Change", .cls "Change", .noat "Change" "__ror__", .noat "Change" "__rrshift__", .noat "Change" "__rsub__", .noat "Change" "kept", .mkr "Change", .meth "Change" "__rshift__", .meth "Change" "__invert__", .meth "Change" "__or__", .meth "Change" "__ior__", .meth "Change" "__sub__", .meth "Change" "__call__", .meth "Change" "__getitem__", .meth "Change" "__contains__"] : List He.Fa) ++ ([.meth "Change" "__len__", .meth "Change" "__bool__", .meth "Change" "__eq__", .meth "Change" "like", .free "ValueError", .free "all", .free "bool", .free "int", .free "isinstance", .free "len", .free "list", .free "max", .free "min", .free "range", .free "str", .free "tuple", .free "zip", .int "FAR" (1000000000000000000000000000000), .int "BEYOND" (100000000000000000000000000000000), .exc "InvalidChange"] : List He.Fa) ++ ([.exc "InvalidPiece", .exc "InvalidWorth", .exc "InvalidIndex", .exc "Unlike"] : List He.Fa)
def lamd : List Str := ["_law_more_right", "_law_bad_right", "law"]
def ex (K : PySem.W.Frag) : Bool := (noLists K && (apartB K lamd && (clsL.all (rowB K) && (pr.all (propB K) && (opsB K (He.ga K "Change") && (fnAtB K (He.ga K "Change") "__call__" && (fnAtB K (He.ga K "Change") "__getitem__" && cintB K (He.ga K "Change") "MOST" (4))))))))
def loose : List Str := (["WalkError", "InvalidChange", "InvalidPiece", "InvalidStatement", "InvalidWorth", "InvalidNumber", "InvalidOrder", "InvalidPrices", "InvalidPairs", "InvalidText", "InvalidIndex", "InvalidRow", "InvalidTable", "Unlike", "Done", "NothingToUndo", "TooMany", "FAR", "BEYOND", "is_whole"] : List Str) ++ (["is_end", "are_ends", "is_piece", "are_apart", "fits_change", "need_change", "need_worth", "floor_of", "top_of", "has", "piece_of", "made", "changed_by", "parts_of", "unlike_in", "first_unlike", "turned_end", "turned", "again", "met_part"] : List Str) ++ (["twice_of", "has_piece", "twice_added", "moved_end", "moved_piece", "with_piece", "need_index", "value_of", "Change", "first_kept", "_law_drum", "_law_roll", "_law_some", "_law_change", "_law_has", "_law_piece", "_law_changed", "_law_names", "_law_error", "_law_value"] : List Str) ++ (["_law_moved", "_law_turned", "_law_settles", "_law_outcome", "_law_taken", "_law_more_right", "_law_bad_right"] : List Str)
abbrev R : PySem.W.OpenRow := PySem.W.OpenLaw.row PySem.Challenge.rw_metagain_k14_changes_as_values
abbrev hk : PySem.W.Hook := hookL (asR 4 pr) fa fn [] [("_law_more_right", none), ("_law_bad_right", none), ("law", none)] ex pr qr
def ob (s : PySem.W.SharedT) : AlQ := obsL (asR 4 pr) fa fn [] [("_law_more_right", none), ("_law_bad_right", none), ("law", none)] ex pr qr (HandSHeadRun.getT s)
theorem ob_eq (s : PySem.W.SharedT) : ob s = hk.obs s.abs := obsL_eq (HandSHeadRun.getT_eq s)
theorem run (w : World) : HandSHeadRun.RunEq R (PySem.W.view R.prog [73]) hk ob 9000 loose w := by
  intro os
  kernel_rfl
end Hd

set_option linter.all false
set_option Elab.async false
set_option maxRecDepth 100000
set_option maxHeartbeats 4000000
/-! The walks of the defs (printed by gen.py). -/
namespace Wlk
open PySem PySem.Spec PyProof.Rows L2 Mi L3 Mir
structure Txt (P : Program) (K : PySem.W.Frag) (mg : Str → Option Value) : Prop where
  d_is_whole : DefFact K mg "is_whole" (topS 21) ["value", "low", "high"]
  d_is_end : DefFact K mg "is_end" (topS 22) ["value"]
  d_are_ends : DefFact K mg "are_ends" (topS 23) ["low", "high"]
  d_is_piece : DefFact K mg "is_piece" (topS 24) ["value"]
  d_are_apart : DefFact K mg "are_apart" (topS 25) ["one", "other"]
  d_fits_change : DefFact K mg "fits_change" (topS 26) ["value"]
  d_need_change : DefFact K mg "need_change" (topS 27) ["value"]
  d_need_worth : DefFact K mg "need_worth" (topS 28) ["value", "low"]
  d_floor_of : DefFact K mg "floor_of" (topS 29) ["piece"]
  d_top_of : DefFact K mg "top_of" (topS 30) ["piece"]
  d_has : DefFact K mg "has" (topS 31) ["piece", "worth"]
  d_piece_of : DefFact K mg "piece_of" (topS 32) ["change", "worth"]
  d_made : DefFact K mg "made" (topS 33) ["piece", "worth"]
  d_changed_by : DefFact K mg "changed_by" (topS 34) ["change", "worth"]
  d_parts_of : DefFact K mg "parts_of" (topS 35) ["change", "low", "high"]
  d_unlike_in : DefFact K mg "unlike_in" (topS 36) ["one", "two", "least", "most"]
  d_first_unlike : DefFact K mg "first_unlike" (topS 37) ["one", "other", "worth"]
  d_turned_end : DefFact K mg "turned_end" (topS 39) ["end"]
  d_turned : DefFact K mg "turned" (topS 40) ["change"]
  d_again : DefFact K mg "again" (topS 41) ["walk", "old", "new"]
  d_met_part : DefFact K mg "met_part" (topS 43) ["walk", "low", "high"]
  d_twice_added : DefFact K mg "twice_added" (topS 46) ["change", "walk", "begin", "end", "step"]
  d_has_piece : DefFact K mg "has_piece" (topS 45) ["change", "worth"]
  d_twice_of : DefFact K mg "twice_of" (topS 44) ["statement", "worth"]
  d_moved_end : DefFact K mg "moved_end" (topS 48) ["end", "ticks"]
  d_moved_piece : DefFact K mg "moved_piece" (topS 49) ["piece", "ticks"]
  d_with_piece : DefFact K mg "with_piece" (topS 50) ["pieces", "piece"]
  d_need_index : DefFact K mg "need_index" (topS 51) ["pieces", "index"]
  d_Change____init__ : InitFactS K (clsAt mg "Change") "Change.__init__" (clsM 53 1) "self" "pieces"
  d_value_of : DefFact K mg "value_of" (topS 52) ["pieces"]
  d_Change__pieces : PropFact K (clsAt mg "Change") "pieces" "Change.pieces" (clsM 53 2) ["self"]
  d_Change____rshift__ : MethFact K (clsAt mg "Change") "__rshift__" "Change.__rshift__" (clsM 53 3) ["self", "ticks"]
  d_Change____invert__ : MethFact K (clsAt mg "Change") "__invert__" "Change.__invert__" (clsM 53 4) ["self"]
  d_Change____or__ : MethFact K (clsAt mg "Change") "__or__" "Change.__or__" (clsM 53 5) ["self", "piece"]
  d_Change____ior__ : MethFact K (clsAt mg "Change") "__ior__" "Change.__ior__" (clsM 53 6) ["self", "piece"]
  d_Change____sub__ : MethFact K (clsAt mg "Change") "__sub__" "Change.__sub__" (clsM 53 7) ["self", "index"]
  d_Change____call__ : MethFact K (clsAt mg "Change") "__call__" "Change.__call__" (clsM 53 8) ["self", "worth"]
  d_Change____getitem__ : MethFact K (clsAt mg "Change") "__getitem__" "Change.__getitem__" (clsM 53 9) ["self", "index"]
  d_Change____contains__ : MethFact K (clsAt mg "Change") "__contains__" "Change.__contains__" (clsM 53 10) ["self", "value"]
  d_Change____len__ : MethFact K (clsAt mg "Change") "__len__" "Change.__len__" (clsM 53 11) ["self"]
  d_first_kept : DefFact K mg "first_kept" (topS 54) ["change"]
  d_Change____bool__ : MethFact K (clsAt mg "Change") "__bool__" "Change.__bool__" (clsM 53 12) ["self"]
  d_Change____eq__ : MethFact K (clsAt mg "Change") "__eq__" "Change.__eq__" (clsM 53 14) ["self", "other"]
  d_Change__like : MethFact K (clsAt mg "Change") "like" "Change.like" (clsM 53 15) ["self", "other"]
  d__law_drum : DefFact K mg "_law_drum" (topS 56) ["cell", "turn"]
  d__law_roll : DefFact K mg "_law_roll" (topS 57) ["drum", "many"]
  d__law_some : DefFact K mg "_law_some" (topS 58) ["drum", "things"]
  d__law_change : DefFact K mg "_law_change" (topS 59) ["drum", "most"]
  d__law_has : DefFact K mg "_law_has" (topS 60) ["low", "high", "worth"]
  d__law_piece : DefFact K mg "_law_piece" (topS 61) ["change_so", "worth"]
  d__law_changed : DefFact K mg "_law_changed" (topS 62) ["change_so", "worth"]
  d__law_names : DefFact K mg "_law_names" (topS 63) ["e"]
  d__law_error : DefFact K mg "_law_error" (topS 64) ["call"]
  d__law_value : DefFact K mg "_law_value" (topS 65) ["pieces"]
  d__law_moved : DefFact K mg "_law_moved" (topS 66) ["change_so", "ticks"]
  d__law_turned : DefFact K mg "_law_turned" (topS 67) ["change_so"]
  d__law_settles : DefFact K mg "_law_settles" (topS 68) ["change_so"]
  d__law_outcome : DefFact K mg "_law_outcome" (topS 69) ["call"]
  d__law_taken : DefFact K mg "_law_taken" (topS 70) ["value", "piece"]
  k_Change : OwnC K mg "Change" (clsAt mg "Change")
  ops_Change : OpsC K (clsAt mg "Change")
  f_Change____call__ : FnAt K (clsAt mg "Change") "__call__"
  f_Change____getitem__ : FnAt K (clsAt mg "Change") "__getitem__"
  m_Change__MOST : CInt K mg "Change" "MOST" (4)
  n_Change____ror__ : NoAttr K (clsAt mg "Change") "__ror__"
  n_Change____rrshift__ : NoAttr K (clsAt mg "Change") "__rrshift__"
  n_Change____rsub__ : NoAttr K (clsAt mg "Change") "__rsub__"
  n_Change__kept : NoAttr K (clsAt mg "Change") "kept"
  e_need_worth : DefFact1 K mg "need_worth" (topS 28) ["value", "low"] [(.int (-1000000000000000000000000000000))]
  o_InvalidChange : ∃ A, mg "InvalidChange" = some (.ref A)
  o_InvalidPiece : ∃ A, mg "InvalidPiece" = some (.ref A)
  o_InvalidStatement : ∃ A, mg "InvalidStatement" = some (.ref A)
  o_InvalidWorth : ∃ A, mg "InvalidWorth" = some (.ref A)
  o_InvalidNumber : ∃ A, mg "InvalidNumber" = some (.ref A)
  o_InvalidOrder : ∃ A, mg "InvalidOrder" = some (.ref A)
  o_InvalidPrices : ∃ A, mg "InvalidPrices" = some (.ref A)
  o_InvalidPairs : ∃ A, mg "InvalidPairs" = some (.ref A)
  o_InvalidText : ∃ A, mg "InvalidText" = some (.ref A)
  o_InvalidIndex : ∃ A, mg "InvalidIndex" = some (.ref A)
  o_InvalidRow : ∃ A, mg "InvalidRow" = some (.ref A)
  o_InvalidTable : ∃ A, mg "InvalidTable" = some (.ref A)
  o_Unlike : ∃ A, mg "Unlike" = some (.ref A)
  o_Done : ∃ A, mg "Done" = some (.ref A)
  o_NothingToUndo : ∃ A, mg "NothingToUndo" = some (.ref A)
  o_TooMany : ∃ A, mg "TooMany" = some (.ref A)
  o_WalkError : ∃ A, mg "WalkError" = some (.ref A)
  r_cls : ∀ x ∈ clsL, ClsRow K mg x
  z_ValueError : mg "ValueError" = none
  z_all : mg "all" = none
  z_bool : mg "bool" = none
  z_int : mg "int" = none
  z_isinstance : mg "isinstance" = none
  z_len : mg "len" = none
  z_list : mg "list" = none
  z_max : mg "max" = none
  z_min : mg "min" = none
  z_range : mg "range" = none
  z_str : mg "str" = none
  z_tuple : mg "tuple" = none
  z_zip : mg "zip" = none
  c_FAR : ∃ tk, mg "FAR" = some (.int (1000000000000000000000000000000) tk)
  c_BEYOND : ∃ tk, mg "BEYOND" = some (.int (100000000000000000000000000000000) tk)
  x_InvalidChange : OwnEx K mg "InvalidChange"
  x_InvalidPiece : OwnEx K mg "InvalidPiece"
  x_InvalidWorth : OwnEx K mg "InvalidWorth"
  x_InvalidIndex : OwnEx K mg "InvalidIndex"
  x_Unlike : OwnEx K mg "Unlike"
structure LTxt (K : PySem.W.Frag) (mg : Str → Option Value) (base : Heap) (T : List (Addr × Str)) : Prop where
  l_none : True
  l__law_more_right : LamF K mg base T "_law_more_right" (topS 71) ["change_so", "piece"]
  l__law_bad_right : LamF K mg base T "_law_bad_right" (topS 72) ["value", "one"]
section
variable {P : Program} {w : World} {K : PySem.W.Frag} {mg : Str → Option Value} {base : Heap} {T : List (Addr × Str)}
theorem h_is_whole (t : Txt P K mg) : HasFn P w K mg base T 1 "is_whole" g_is_whole :=
  fn_okD t.d_is_whole (show FnScope ["value", "low", "high"] ["value", "low", "high"] (defScope (topS 21)) from ⟨rfl, rfl, rfl, by decide +kernel, rfl, by decide +kernel, by decide +kernel⟩) fun f cdv A outer s H E ck hp => by
    unfold F_is_whole
    exact (dss_one (ds_ret (de_and (de_isi .int t.z_isinstance PyProof.Rows.boot_isinstance t.z_int PyProof.Rows.boot_int (de_var 0)) (de_and (de_not (de_isi .bool t.z_isinstance PyProof.Rows.boot_isinstance t.z_bool PyProof.Rows.boot_bool (de_var 0))) (de_one (de_chain op_le os_cmpI op_le os_cmpI (de_var 1) (de_var 0) (de_var 2)))))))
theorem h_is_end (t : Txt P K mg) : HasFn P w K mg base T 2 "is_end" g_is_end :=
  fn_okD t.d_is_end (show FnScope ["value"] ["value"] (defScope (topS 22)) from ⟨rfl, rfl, rfl, by decide +kernel, rfl, by decide +kernel, by decide +kernel⟩) fun f cdv A outer s H E ck hp => by
    unfold F_is_end
    exact (dss_one (ds_ret (de_or (de_isN (de_var 0)) (de_one (de_call ck (h_is_whole t) (da_cons (de_var 0) (da_cons (de_un un_negA os_neg (de_gint t.c_FAR)) (da_cons (de_gint t.c_FAR) da_nil))))))))
theorem h_are_ends (t : Txt P K mg) : HasFn P w K mg base T 3 "are_ends" g_are_ends :=
  fn_okD t.d_are_ends (show FnScope ["low", "high"] ["low", "high"] (defScope (topS 23)) from ⟨rfl, rfl, rfl, by decide +kernel, rfl, by decide +kernel, by decide +kernel⟩) fun f cdv A outer s H E ck hp => by
    unfold F_are_ends
    exact (dss_one (ds_ret (de_and (de_call ck (h_is_end t) (da_cons (de_var 0) da_nil)) (de_and (de_call ck (h_is_end t) (da_cons (de_var 1) da_nil)) (de_one (de_or (de_isN (de_var 0)) (de_or (de_isN (de_var 1)) (de_one (de_cmp op_le os_cmpI (de_var 0) (de_var 1))))))))))
theorem h_is_piece (t : Txt P K mg) : HasFn P w K mg base T 4 "is_piece" g_is_piece :=
  fn_okD t.d_is_piece (show FnScope ["value"] ["value"] (defScope (topS 24)) from ⟨rfl, rfl, rfl, by decide +kernel, rfl, by decide +kernel, by decide +kernel⟩) fun f cdv A outer s H E ck hp => by
    unfold F_is_piece
    exact (dss_cons (ds_if (dt_w (dw_or (dt_not (dt_val (de_isi .tuple t.z_isinstance PyProof.Rows.boot_isinstance t.z_tuple PyProof.Rows.boot_tuple (de_var 0)))) (dw_or (dt_cmp (op_neD ck.hu) os_ne (de_blt call_len bs_len t.z_len PySem.boot_len (da_cons (de_var 0) da_nil)) de_int) (dw_or1 (dt_not (dt_val (de_call ck (h_are_ends t) (da_cons (de_ix (de_var 0) de_int) (da_cons (de_ix (de_var 0) de_int) da_nil))))))))) (dss_one (ds_ret de_bl)) dss_nil)
    (dss_cons (ds_if (dt_w (dw_or (dt_not (dt_val (de_isi .str t.z_isinstance PyProof.Rows.boot_isinstance t.z_str PyProof.Rows.boot_str (de_ix (de_var 0) de_int)))) (dw_or1 (dt_not (dt_val (de_call ck (h_is_whole t) (da_cons (de_ix (de_var 0) de_int) (da_cons (de_un un_negA os_neg (de_gint t.c_FAR)) (da_cons (de_gint t.c_FAR) da_nil))))))))) (dss_one (ds_ret de_bl)) dss_nil)
    (dss_one (ds_ret (de_or (de_cmp (op_eqD ck.hu) os_eq (de_ix (de_var 0) de_int) de_str) (de_one (de_and (de_cmp (op_eqD ck.hu) os_eq (de_ix (de_var 0) de_int) de_str) (de_one (de_cmp (op_neD ck.hu) os_ne (de_ix (de_var 0) de_int) de_int)))))))))
theorem h_are_apart (t : Txt P K mg) : HasFn P w K mg base T 1 "are_apart" g_are_apart :=
  fn_okD t.d_are_apart (show FnScope ["one", "other"] ["one", "other"] (defScope (topS 25)) from ⟨rfl, rfl, rfl, by decide +kernel, rfl, by decide +kernel, by decide +kernel⟩) fun f cdv A outer s H E ck hp => by
    unfold F_are_apart
    exact (dss_one (ds_ret (de_and (de_notN (de_ix (de_var 0) de_int)) (de_and (de_notN (de_ix (de_var 1) de_int)) (de_one (de_cmp op_lt os_cmpI (de_ix (de_var 0) de_int) (de_ix (de_var 1) de_int)))))))
theorem h_fits_change (t : Txt P K mg) : HasFn P w K mg base T 5 "fits_change" g_fits_change :=
  fn_okD t.d_fits_change (show FnScope ["value", "at", "piece"] ["value"] (defScope (topS 26)) from ⟨rfl, rfl, rfl, by decide +kernel, rfl, by decide +kernel, by decide +kernel⟩) fun f cdv A outer s H E ck hp => by
    unfold F_fits_change
    exact (dss_cons (ds_if (dt_w (dw_or (dt_not (dt_val (de_isi .tuple t.z_isinstance PyProof.Rows.boot_isinstance t.z_tuple PyProof.Rows.boot_tuple (de_var 0)))) (dw_or (dt_not (dt_chain op_le os_cmpI op_le os_cmpI de_int (de_blt call_len bs_len t.z_len PySem.boot_len (da_cons (de_var 0) da_nil)) de_int)) (dw_or1 (dt_not (dt_val (de_blt (cr_all ck.calm) bs_all t.z_all PyProof.Rows.boot_all (da_cons (de_lc ck (di_seq (de_var 0)) (blkOk_by (own := [("piece", 2)]) (by kernel_rfl)) (fun _ _ _ _ _ => (dg_name 2 ck.nd)) (fun _ _ _ _ _ ck => dc_nil) (fun _ _ _ _ _ ck => (de_call ck (h_is_piece t) (da_cons (de_var 2) da_nil)))) da_nil)))))))) (dss_one (ds_ret de_bl)) dss_nil)
    (dss_one (ds_ret (de_blt (cr_all ck.calm) bs_all t.z_all PyProof.Rows.boot_all (da_cons (de_lc ck (di_range1 (de_op op_subA os_sub (de_blt call_len bs_len t.z_len PySem.boot_len (da_cons (de_var 0) da_nil)) de_int) t.z_range) (blkOk_by (own := [("at", 1)]) (by kernel_rfl)) (fun _ _ _ _ _ => (dg_name 1 ck.nd)) (fun _ _ _ _ _ ck => dc_nil) (fun _ _ _ _ _ ck => (de_call ck (h_are_apart t) (da_cons (de_ix (de_var 0) (de_var 1)) (da_cons (de_ix (de_var 0) (de_op op_addA os_add (de_var 1) de_int)) da_nil))))) da_nil)))))
theorem h_need_change (t : Txt P K mg) : HasFn P w K mg base T 6 "need_change" g_need_change :=
  fn_okD t.d_need_change (show FnScope ["value"] ["value"] (defScope (topS 27)) from ⟨rfl, rfl, rfl, by decide +kernel, rfl, by decide +kernel, by decide +kernel⟩) fun f cdv A outer s H E ck hp => by
    unfold F_need_change
    exact (dss_one (ds_if (dt_not (dt_val (de_call ck (h_fits_change t) (da_cons (de_var 0) da_nil)))) (dss_one (ds_raise ck t.x_InvalidChange)) dss_nil))
theorem h_need_worth (t : Txt P K mg) : HasFn P w K mg base T 2 "need_worth" g_need_worth :=
  fn_okD t.d_need_worth (show FnScope ["value", "low"] ["value", "low"] (defScope (topS 28)) from ⟨rfl, rfl, rfl, by decide +kernel, rfl, by decide +kernel, by decide +kernel⟩) fun f cdv A outer s H E ck hp => by
    unfold F_need_worth
    exact (dss_one (ds_if (dt_not (dt_val (de_call ck (h_is_whole t) (da_cons (de_var 0) (da_cons (de_var 1) (da_cons (de_gint t.c_FAR) da_nil)))))) (dss_one (ds_raise ck t.x_InvalidWorth)) dss_nil))
theorem h_need_worth_d (t : Txt P K mg) : HasFn P w K mg base T 2 "need_worth" g_need_worth_d :=
  fn_ok1 t.e_need_worth (show FnScope ["value", "low"] ["value", "low"] (defScope (topS 28)) from ⟨rfl, rfl, rfl, by decide +kernel, rfl, by decide +kernel, by decide +kernel⟩) fun f cdv A outer s H E ck hp => by
    unfold F_need_worth
    exact (dss_one (ds_if (dt_not (dt_val (de_call ck (h_is_whole t) (da_cons (de_var 0) (da_cons (de_var 1) (da_cons (de_gint t.c_FAR) da_nil)))))) (dss_one (ds_raise ck t.x_InvalidWorth)) dss_nil))
theorem h_floor_of (t : Txt P K mg) : HasFn P w K mg base T 1 "floor_of" g_floor_of :=
  fn_okD t.d_floor_of (show FnScope ["piece"] ["piece"] (defScope (topS 29)) from ⟨rfl, rfl, rfl, by decide +kernel, rfl, by decide +kernel, by decide +kernel⟩) fun f cdv A outer s H E ck hp => by
    unfold F_floor_of
    exact (dss_one (ds_ret (de_if (dt_isN (de_ix (de_var 0) de_int)) (de_un un_negA os_neg (de_gint t.c_BEYOND)) (de_ix (de_var 0) de_int))))
theorem h_top_of (t : Txt P K mg) : HasFn P w K mg base T 1 "top_of" g_top_of :=
  fn_okD t.d_top_of (show FnScope ["piece"] ["piece"] (defScope (topS 30)) from ⟨rfl, rfl, rfl, by decide +kernel, rfl, by decide +kernel, by decide +kernel⟩) fun f cdv A outer s H E ck hp => by
    unfold F_top_of
    exact (dss_one (ds_ret (de_if (dt_isN (de_ix (de_var 0) de_int)) (de_gint t.c_BEYOND) (de_ix (de_var 0) de_int))))
theorem h_has (t : Txt P K mg) : HasFn P w K mg base T 1 "has" g_has :=
  fn_okD t.d_has (show FnScope ["piece", "worth"] ["piece", "worth"] (defScope (topS 31)) from ⟨rfl, rfl, rfl, by decide +kernel, rfl, by decide +kernel, by decide +kernel⟩) fun f cdv A outer s H E ck hp => by
    unfold F_has
    exact (dss_one (ds_ret (de_and (de_or (de_isN (de_ix (de_var 0) de_int)) (de_one (de_cmp op_le os_cmpI (de_ix (de_var 0) de_int) (de_var 1)))) (de_one (de_or (de_isN (de_ix (de_var 0) de_int)) (de_one (de_cmp op_le os_cmpI (de_var 1) (de_ix (de_var 0) de_int))))))))
theorem h_piece_of (t : Txt P K mg) : HasFn P w K mg base T 2 "piece_of" g_piece_of :=
  fn_okD t.d_piece_of (show FnScope ["change", "worth", "piece"] ["change", "worth"] (defScope (topS 32)) from ⟨rfl, rfl, rfl, by decide +kernel, rfl, by decide +kernel, by decide +kernel⟩) fun f cdv A outer s H E ck hp => by
    unfold F_piece_of
    exact (dss_cons (ds_for ck hp (di_seq (de_var 0)) (dg_name 2 ck.nd) (dss_one (ds_if (dt_val (de_call ck (h_has t) (da_cons (de_var 2) (da_cons (de_var 1) da_nil)))) (dss_one (ds_ret (de_var 2))) dss_nil)))
    (dss_one (ds_ret de_non)))
theorem h_made (t : Txt P K mg) : HasFn P w K mg base T 1 "made" g_made :=
  fn_okD t.d_made (show FnScope ["piece", "worth"] ["piece", "worth"] (defScope (topS 33)) from ⟨rfl, rfl, rfl, by decide +kernel, rfl, by decide +kernel, by decide +kernel⟩) fun f cdv A outer s H E ck hp => by
    unfold F_made
    exact (dss_cons (ds_if (dt_isN (de_var 0)) (dss_one (ds_ret (de_var 1))) dss_nil)
    (dss_one (ds_ret (de_if (dt_cmp (op_eqD ck.hu) os_eq (de_ix (de_var 0) de_int) de_str) (de_op op_addA os_add (de_var 1) (de_ix (de_var 0) de_int)) (de_ix (de_var 0) de_int)))))
theorem h_changed_by (t : Txt P K mg) : HasFn P w K mg base T 3 "changed_by" g_changed_by :=
  fn_okD t.d_changed_by (show FnScope ["change", "worth"] ["change", "worth"] (defScope (topS 34)) from ⟨rfl, rfl, rfl, by decide +kernel, rfl, by decide +kernel, by decide +kernel⟩) fun f cdv A outer s H E ck hp => by
    unfold F_changed_by
    exact (dss_one (ds_ret (de_call ck (h_made t) (da_cons (de_call ck (h_piece_of t) (da_cons (de_var 0) (da_cons (de_var 1) da_nil))) (da_cons (de_var 1) da_nil)))))
theorem h_parts_of (t : Txt P K mg) : HasFn P w K mg base T 2 "parts_of" g_parts_of :=
  fn_okD t.d_parts_of (show FnScope ["change", "low", "high", "found", "begin", "piece", "least", "most"] ["change", "low", "high"] (defScope (topS 35)) from ⟨rfl, rfl, rfl, by decide +kernel, rfl, by decide +kernel, by decide +kernel⟩) fun f cdv A outer s H E ck hp => by
    unfold F_parts_of
    exact (dss_cons (ds_par 3 4 ck (de_lst da_nil) (de_var 1))
    (dss_cons (ds_for ck hp (di_seq (de_var 0)) (dg_name 5 ck.nd) (dss_cons (ds_par 6 7 ck (de_blt (call_max2 ck.calm) bs_max2 t.z_max PyProof.Rows.boot_max (da_cons (de_var 1) (da_cons (de_call ck (h_floor_of t) (da_cons (de_var 5) da_nil)) da_nil))) (de_blt (call_min2 ck.calm) bs_min2 t.z_min PyProof.Rows.boot_min (da_cons (de_var 2) (da_cons (de_call ck (h_top_of t) (da_cons (de_var 5) da_nil)) da_nil))))
    (dss_one (ds_if (dt_cmp op_le os_cmpI (de_var 6) (de_var 7)) (dss_cons (ds_if (dt_cmp op_lt os_cmpI (de_var 4) (de_var 6)) (dss_one (ds_set 3 ck (de_op op_addA os_add (de_var 3) (de_lst (da_cons (de_tup (da_cons (de_var 4) (da_cons (de_op op_subA os_sub (de_var 6) de_int) (da_cons de_non da_nil)))) da_nil))))) dss_nil)
    (dss_one (ds_par 3 4 ck (de_op op_addA os_add (de_var 3) (de_lst (da_cons (de_tup (da_cons (de_var 6) (da_cons (de_var 7) (da_cons (de_var 5) da_nil)))) da_nil))) (de_op op_addA os_add (de_var 7) de_int)))) dss_nil))))
    (dss_one (ds_ret (de_if (dt_cmp op_le os_cmpI (de_var 4) (de_var 2)) (de_op op_addA os_add (de_var 3) (de_lst (da_cons (de_tup (da_cons (de_var 4) (da_cons (de_var 2) (da_cons de_non da_nil)))) da_nil))) (de_var 3))))))
theorem h_unlike_in (t : Txt P K mg) : HasFn P w K mg base T 2 "unlike_in" g_unlike_in :=
  fn_okD t.d_unlike_in (show FnScope ["one", "two", "least", "most", "worth"] ["one", "two", "least", "most"] (defScope (topS 36)) from ⟨rfl, rfl, rfl, by decide +kernel, rfl, by decide +kernel, by decide +kernel⟩) fun f cdv A outer s H E ck hp => by
    unfold F_unlike_in
    exact (dss_cons (ds_for ck hp (di_seq (de_tup (da_cons (de_var 2) (da_cons (de_op op_addA os_add (de_var 2) de_int) da_nil)))) (dg_name 4 ck.nd) (dss_one (ds_if (dt_w (dw_and (dt_cmp op_le os_cmpI (de_var 4) (de_var 3)) (dw_and1 (dt_cmp (op_neD ck.hu) os_ne (de_call ck (h_made t) (da_cons (de_var 0) (da_cons (de_var 4) da_nil))) (de_call ck (h_made t) (da_cons (de_var 1) (da_cons (de_var 4) da_nil))))))) (dss_one (ds_ret (de_var 4))) dss_nil)))
    (dss_one (ds_ret de_non)))
theorem h_first_unlike (t : Txt P K mg) : HasFn P w K mg base T 3 "first_unlike" g_first_unlike :=
  fn_okD t.d_first_unlike (show FnScope ["one", "other", "worth", "least", "most", "piece", "low", "high", "two", "found"] ["one", "other", "worth"] (defScope (topS 37)) from ⟨rfl, rfl, rfl, by decide +kernel, rfl, by decide +kernel, by decide +kernel⟩) fun f cdv A outer s H E ck hp => by
    unfold F_first_unlike
    exact (dss_cons (ds_for ck hp (di_seq (de_call ck (h_parts_of t) (da_cons (de_var 0) (da_cons (de_var 2) (da_cons (de_gint t.c_BEYOND) da_nil))))) (dg_tup ck.calm (dgs_cons (dg_name 3 ck.nd) (dgs_cons (dg_name 4 ck.nd) (dgs_cons (dg_name 5 ck.nd) dgs_nil)))) (dss_one (ds_for ck hp (di_seq (de_call ck (h_parts_of t) (da_cons (de_var 1) (da_cons (de_var 3) (da_cons (de_var 4) da_nil))))) (dg_tup ck.calm (dgs_cons (dg_name 6 ck.nd) (dgs_cons (dg_name 7 ck.nd) (dgs_cons (dg_name 8 ck.nd) dgs_nil)))) (dss_cons (ds_set 9 ck (de_call ck (h_unlike_in t) (da_cons (de_var 5) (da_cons (de_var 8) (da_cons (de_var 6) (da_cons (de_var 7) da_nil))))))
    (dss_one (ds_if (dt_notN (de_var 9)) (dss_one (ds_ret (de_var 9))) dss_nil))))))
    (dss_one (ds_ret de_non)))
theorem h_turned_end (t : Txt P K mg) : HasFn P w K mg base T 1 "turned_end" g_turned_end :=
  fn_okD t.d_turned_end (show FnScope ["end"] ["end"] (defScope (topS 39)) from ⟨rfl, rfl, rfl, by decide +kernel, rfl, by decide +kernel, by decide +kernel⟩) fun f cdv A outer s H E ck hp => by
    unfold F_turned_end
    exact (dss_one (ds_ret (de_if (dt_isN (de_var 0)) de_non (de_un un_negA os_neg (de_var 0)))))
theorem h_turned (t : Txt P K mg) : HasFn P w K mg base T 2 "turned" g_turned :=
  fn_okD t.d_turned (show FnScope ["change", "piece"] ["change"] (defScope (topS 40)) from ⟨rfl, rfl, rfl, by decide +kernel, rfl, by decide +kernel, by decide +kernel⟩) fun f cdv A outer s H E ck hp => by
    unfold F_turned
    exact (dss_one (ds_ret (de_bty call_tuple_of bs_tup t.z_tuple PyProof.Rows.boot_tuple (da_cons (de_lc ck (di_seq (de_revA (de_var 0))) (blkOk_by (own := [("piece", 1)]) (by kernel_rfl)) (fun _ _ _ _ _ => (dg_name 1 ck.nd)) (fun _ _ _ _ _ ck => dc_nil) (fun _ _ _ _ _ ck => (de_tup (da_cons (de_call ck (h_turned_end t) (da_cons (de_ix (de_var 1) de_int) da_nil)) (da_cons (de_call ck (h_turned_end t) (da_cons (de_ix (de_var 1) de_int) da_nil)) (da_cons (de_ix (de_var 1) de_int) (da_cons (de_un un_negA os_neg (de_ix (de_var 1) de_int)) da_nil))))))) da_nil))))
theorem h_again (t : Txt P K mg) : HasFn P w K mg base T 1 "again" g_again :=
  fn_okD t.d_again (show FnScope ["walk", "old", "new"] ["walk", "old", "new"] (defScope (topS 41)) from ⟨rfl, rfl, rfl, by decide +kernel, rfl, by decide +kernel, by decide +kernel⟩) fun f cdv A outer s H E ck hp => by
    unfold F_again
    exact (dss_cons (ds_if (dt_cmp (op_eqD ck.hu) os_eq (de_ix (de_var 0) de_int) de_str) (dss_one (ds_ret (de_and (de_cmp op_gt os_cmpI (de_var 2) (de_var 1)) (de_one (de_or (de_isN (de_ix (de_var 0) de_int)) (de_one (de_cmp op_le os_cmpI (de_var 2) (de_ix (de_var 0) de_int)))))))) dss_nil)
    (dss_one (ds_ret (de_cmp (op_eqD ck.hu) os_eq (de_ix (de_var 0) de_int) de_str))))
theorem h_met_part (t : Txt P K mg) : HasFn P w K mg base T 1 "met_part" g_met_part :=
  fn_okD t.d_met_part (show FnScope ["walk", "low", "high", "least"] ["walk", "low", "high"] (defScope (topS 43)) from ⟨rfl, rfl, rfl, by decide +kernel, rfl, by decide +kernel, by decide +kernel⟩) fun f cdv A outer s H E ck hp => by
    unfold F_met_part
    exact (dss_cons (ds_if (dt_cmp (op_neD ck.hu) os_ne (de_ix (de_var 0) de_int) de_str) (dss_one (ds_ret (de_tup (da_cons (de_var 1) (da_cons (de_var 2) da_nil))))) dss_nil)
    (dss_cons (ds_set 3 ck (de_if (dt_isN (de_ix (de_var 0) de_int)) (de_var 1) (de_blt (call_max2 ck.calm) bs_max2 t.z_max PyProof.Rows.boot_max (da_cons (de_var 1) (da_cons (de_ix (de_var 0) de_int) da_nil)))))
    (dss_one (ds_ret (de_tup (da_cons (de_var 3) (da_cons (de_if (dt_isN (de_ix (de_var 0) de_int)) (de_var 2) (de_blt (call_min2 ck.calm) bs_min2 t.z_min PyProof.Rows.boot_min (da_cons (de_var 2) (da_cons (de_ix (de_var 0) de_int) da_nil)))) da_nil)))))))
theorem h_twice_added (t : Txt P K mg) : HasFn P w K mg base T 3 "twice_added" g_twice_added :=
  fn_okD t.d_twice_added (show FnScope ["change", "walk", "begin", "end", "step", "roof", "least", "most", "piece"] ["change", "walk", "begin", "end", "step"] (defScope (topS 46)) from ⟨rfl, rfl, rfl, by decide +kernel, rfl, by decide +kernel, by decide +kernel⟩) fun f cdv A outer s H E ck hp => by
    unfold F_twice_added
    exact (dss_cons (ds_if (dt_w (dw_and (dt_cmp (op_eqD ck.hu) os_eq (de_ix (de_var 1) de_int) de_str) (dw_and1 (dt_cmp op_lt os_cmpI (de_var 4) de_int)))) (dss_one (ds_ret de_non)) dss_nil)
    (dss_cons (ds_set 5 ck (de_if (dt_w (dw_or (dt_cmp (op_neD ck.hu) os_ne (de_ix (de_var 1) de_int) de_str) (dw_or1 (dt_isN (de_ix (de_var 1) de_int))))) (de_gint t.c_BEYOND) (de_ix (de_var 1) de_int)))
    (dss_cons (ds_for ck hp (di_seq (de_if (dt_cmp op_le os_cmpI (de_op op_addA os_add (de_var 2) (de_var 4)) (de_var 5)) (de_call ck (h_parts_of t) (da_cons (de_var 0) (da_cons (de_op op_addA os_add (de_var 2) (de_var 4)) (da_cons (de_blt (call_min2 ck.calm) bs_min2 t.z_min PyProof.Rows.boot_min (da_cons (de_op op_addA os_add (de_var 3) (de_var 4)) (da_cons (de_var 5) da_nil))) da_nil)))) (de_lst da_nil))) (dg_tup ck.calm (dgs_cons (dg_name 6 ck.nd) (dgs_cons (dg_name 7 ck.nd) (dgs_cons (dg_name 8 ck.nd) dgs_nil)))) (dss_one (ds_if (dt_notN (de_var 8)) (dss_one (ds_ret (de_op op_subA os_sub (de_var 6) (de_var 4)))) dss_nil)))
    (dss_one (ds_ret de_non)))))
theorem h_has_piece (t : Txt P K mg) : HasFn P w K mg base T 3 "has_piece" g_has_piece :=
  fn_okD t.d_has_piece (show FnScope ["change", "worth"] ["change", "worth"] (defScope (topS 45)) from ⟨rfl, rfl, rfl, by decide +kernel, rfl, by decide +kernel, by decide +kernel⟩) fun f cdv A outer s H E ck hp => by
    unfold F_has_piece
    exact (dss_one (ds_ret (de_notN (de_call ck (h_piece_of t) (da_cons (de_var 0) (da_cons (de_var 1) da_nil))))))
theorem h_twice_of (t : Txt P K mg) : HasFn P w K mg base T 4 "twice_of" g_twice_of :=
  fn_okD t.d_twice_of (show FnScope ["statement", "worth", "change", "walk", "low", "high", "begin", "end", "piece", "found", "good"] ["statement", "worth"] (defScope (topS 44)) from ⟨rfl, rfl, rfl, by decide +kernel, rfl, by decide +kernel, by decide +kernel⟩) fun f cdv A outer s H E ck hp => by
    unfold F_twice_of
    exact (dss_cons (ds_tgt (de_var 0) (dg_tup ck.calm (dgs_cons (dg_name 2 ck.nd) (dgs_cons (dg_name 3 ck.nd) dgs_nil))))
    (dss_cons (ds_tgt (de_call ck (h_met_part t) (da_cons (de_var 3) (da_cons (de_var 1) (da_cons (de_gint t.c_BEYOND) da_nil)))) (dg_tup ck.calm (dgs_cons (dg_name 4 ck.nd) (dgs_cons (dg_name 5 ck.nd) dgs_nil))))
    (dss_cons (ds_for ck hp (di_seq (de_if (dt_cmp op_le os_cmpI (de_var 4) (de_var 5)) (de_call ck (h_parts_of t) (da_cons (de_var 2) (da_cons (de_var 4) (da_cons (de_var 5) da_nil)))) (de_lst da_nil))) (dg_tup ck.calm (dgs_cons (dg_name 6 ck.nd) (dgs_cons (dg_name 7 ck.nd) (dgs_cons (dg_name 8 ck.nd) dgs_nil)))) (dss_cons (ds_if (dt_w (dw_or (dt_isN (de_var 8)) (dw_or1 (dt_cmp (op_eqD ck.hu) os_eq (de_ix (de_var 3) de_int) de_str)))) (dss_one ds_cont) dss_nil)
    (dss_cons (ds_if (dt_cmp (op_eqD ck.hu) os_eq (de_ix (de_var 8) de_int) de_str) (dss_one (ds_set 9 ck (de_call ck (h_twice_added t) (da_cons (de_var 2) (da_cons (de_var 3) (da_cons (de_var 6) (da_cons (de_var 7) (da_cons (de_ix (de_var 8) de_int) da_nil)))))))) (dss_cons (ds_set 10 ck (de_and (de_call ck (h_has_piece t) (da_cons (de_var 2) (da_cons (de_ix (de_var 8) de_int) da_nil))) (de_one (de_call ck (h_again t) (da_cons (de_var 3) (da_cons (de_var 6) (da_cons (de_ix (de_var 8) de_int) da_nil)))))))
    (dss_one (ds_set 9 ck (de_if (dt_val (de_var 10)) (de_var 6) de_non)))))
    (dss_one (ds_if (dt_notN (de_var 9)) (dss_one (ds_ret (de_var 9))) dss_nil)))))
    (dss_one (ds_ret de_non)))))
theorem h_moved_end (t : Txt P K mg) : HasFn P w K mg base T 1 "moved_end" g_moved_end :=
  fn_okD t.d_moved_end (show FnScope ["end", "ticks"] ["end", "ticks"] (defScope (topS 48)) from ⟨rfl, rfl, rfl, by decide +kernel, rfl, by decide +kernel, by decide +kernel⟩) fun f cdv A outer s H E ck hp => by
    unfold F_moved_end
    exact (dss_one (ds_ret (de_if (dt_isN (de_var 0)) de_non (de_op op_addA os_add (de_var 0) (de_var 1)))))
theorem h_moved_piece (t : Txt P K mg) : HasFn P w K mg base T 2 "moved_piece" g_moved_piece :=
  fn_okD t.d_moved_piece (show FnScope ["piece", "ticks", "low", "high", "word", "by"] ["piece", "ticks"] (defScope (topS 49)) from ⟨rfl, rfl, rfl, by decide +kernel, rfl, by decide +kernel, by decide +kernel⟩) fun f cdv A outer s H E ck hp => by
    unfold F_moved_piece
    exact (dss_cons (ds_tgt (de_var 0) (dg_tup ck.calm (dgs_cons (dg_name 2 ck.nd) (dgs_cons (dg_name 3 ck.nd) (dgs_cons (dg_name 4 ck.nd) (dgs_cons (dg_name 5 ck.nd) dgs_nil))))))
    (dss_one (ds_ret (de_tup (da_cons (de_call ck (h_moved_end t) (da_cons (de_var 2) (da_cons (de_var 1) da_nil))) (da_cons (de_call ck (h_moved_end t) (da_cons (de_var 3) (da_cons (de_var 1) da_nil))) (da_cons (de_var 4) (da_cons (de_if (dt_cmp (op_eqD ck.hu) os_eq (de_var 4) de_str) (de_var 5) (de_op op_addA os_add (de_var 5) (de_var 1))) da_nil))))))))
theorem h_with_piece (t : Txt P K mg) : HasFn P w K mg base T 5 "with_piece" g_with_piece :=
  fn_okD t.d_with_piece (show FnScope ["pieces", "piece", "below", "one"] ["pieces", "piece"] (defScope (topS 50)) from ⟨rfl, rfl, rfl, by decide +kernel, rfl, by decide +kernel, by decide +kernel⟩) fun f cdv A outer s H E ck hp => by
    unfold F_with_piece
    exact (dss_cons (ds_if (dt_not (dt_val (de_call ck (h_is_piece t) (da_cons (de_var 1) da_nil)))) (dss_one (ds_raise ck t.x_InvalidPiece)) dss_nil)
    (dss_cons (ds_setLc 2 ck (di_seq (de_var 0)) (blkOk_by (own := [("one", 3)]) (by kernel_rfl)) (fun _ _ _ _ _ => (dg_name 3 ck.nd)) (fun _ _ _ _ _ ck => (dc_one (dt_w (dw_and (dt_notN (de_ix (de_var 1) de_int)) (dw_and (dt_notN (de_ix (de_var 3) de_int)) (dw_and1 (dt_cmp op_lt os_cmpI (de_ix (de_var 3) de_int) (de_ix (de_var 1) de_int)))))))) (fun _ _ _ _ _ ck => (de_var 3)))
    (dss_one (ds_ret (de_op op_addA os_add (de_op op_addA os_add (de_bty call_tuple_of bs_tup t.z_tuple PyProof.Rows.boot_tuple (da_cons (de_var 2) da_nil)) (de_tup (da_cons (de_var 1) da_nil))) (de_sl (de_var 0) (dp_some (de_blt call_len bs_len t.z_len PySem.boot_len (da_cons (de_var 2) da_nil))) dp_none))))))
theorem h_need_index (t : Txt P K mg) : HasFn P w K mg base T 2 "need_index" g_need_index :=
  fn_okD t.d_need_index (show FnScope ["pieces", "index"] ["pieces", "index"] (defScope (topS 51)) from ⟨rfl, rfl, rfl, by decide +kernel, rfl, by decide +kernel, by decide +kernel⟩) fun f cdv A outer s H E ck hp => by
    unfold F_need_index
    exact (dss_one (ds_if (dt_not (dt_val (de_call ck (h_is_whole t) (da_cons (de_var 1) (da_cons de_int (da_cons (de_op op_subA os_sub (de_blt call_len bs_len t.z_len PySem.boot_len (da_cons (de_var 0) da_nil)) de_int) da_nil)))))) (dss_one (ds_raise ck t.x_InvalidIndex)) dss_nil))
theorem h_Change____init__ (t : Txt P K mg) : HasMkS P w K mg base T 7 (clsAt mg "Change") g_Change____init__ :=
  init_okS t.d_Change____init__ (show FnScope ["self", "pieces"] ["self", "pieces"] (defScope (clsM 53 1)) from ⟨rfl, rfl, rfl, by decide +kernel, rfl, by decide +kernel, by decide +kernel⟩) fun f cdv A outer s H E ck hp => by
    unfold F_Change____init__
    exact (dss_cons (ds_expr (de_call ck (h_need_change t) (da_cons (de_bty call_tuple_of bs_tup t.z_tuple PyProof.Rows.boot_tuple (da_cons (de_var 1) da_nil)) da_nil)))
    (dss_one (ds_fld t.k_Change t.n_Change__kept (de_var 0) (de_bty call_tuple_of bs_tup t.z_tuple PyProof.Rows.boot_tuple (da_cons (de_var 1) da_nil)))))
theorem h_value_of (t : Txt P K mg) : HasFn P w K mg base T 9 "value_of" g_value_of :=
  fn_okD t.d_value_of (show FnScope ["pieces"] ["pieces"] (defScope (topS 52)) from ⟨rfl, rfl, rfl, by decide +kernel, rfl, by decide +kernel, by decide +kernel⟩) fun f cdv A outer s H E ck hp => by
    unfold F_value_of
    exact (dss_cons (ds_expr (de_call ck (h_need_change t) (da_cons (de_var 0) da_nil)))
    (dss_one (ds_ret (de_newStar ck t.k_Change.at_ (h_Change____init__ t) (de_var 0)))))
theorem h_Change__pieces (t : Txt P K mg) : HasP P w K mg base T 1 (clsAt mg "Change") "pieces" g_Change__pieces :=
  prop_ok t.d_Change__pieces (show FnScope ["self"] ["self"] (defScope (clsM 53 2)) from ⟨rfl, rfl, rfl, by decide +kernel, rfl, by decide +kernel, by decide +kernel⟩) fun f cdv A outer s H E ck hp => by
    unfold F_Change__pieces
    exact (dss_one (ds_ret (de_fld t.k_Change t.n_Change__kept (de_var 0))))
theorem h_Change____rshift__ (t : Txt P K mg) : HasM P w K mg base T 10 (clsAt mg "Change") "__rshift__" g_Change____rshift__ :=
  meth_ok t.d_Change____rshift__ (show FnScope ["self", "ticks", "piece"] ["self", "ticks"] (defScope (clsM 53 3)) from ⟨rfl, rfl, rfl, by decide +kernel, rfl, by decide +kernel, by decide +kernel⟩) fun f cdv A outer s H E ck hp => by
    unfold F_Change____rshift__
    exact (dss_cons (ds_expr (de_call ck (h_need_worth_d t) (da_cons (de_var 1) da_nil)))
    (dss_one (ds_ret (de_call ck (h_value_of t) (da_cons (de_bty call_tuple_of bs_tup t.z_tuple PyProof.Rows.boot_tuple (da_cons (de_lc ck (di_seq (de_fld t.k_Change t.n_Change__kept (de_var 0))) (blkOk_by (own := [("piece", 2)]) (by kernel_rfl)) (fun _ _ _ _ _ => (dg_name 2 ck.nd)) (fun _ _ _ _ _ ck => dc_nil) (fun _ _ _ _ _ ck => (de_call ck (h_moved_piece t) (da_cons (de_var 2) (da_cons (de_var 1) da_nil))))) da_nil)) da_nil)))))
theorem h_Change____invert__ (t : Txt P K mg) : HasM P w K mg base T 10 (clsAt mg "Change") "__invert__" g_Change____invert__ :=
  meth_ok t.d_Change____invert__ (show FnScope ["self"] ["self"] (defScope (clsM 53 4)) from ⟨rfl, rfl, rfl, by decide +kernel, rfl, by decide +kernel, by decide +kernel⟩) fun f cdv A outer s H E ck hp => by
    unfold F_Change____invert__
    exact (dss_one (ds_ret (de_call ck (h_value_of t) (da_cons (de_call ck (h_turned t) (da_cons (de_fld t.k_Change t.n_Change__kept (de_var 0)) da_nil)) da_nil))))
theorem h_Change____or__ (t : Txt P K mg) : HasM P w K mg base T 10 (clsAt mg "Change") "__or__" g_Change____or__ :=
  meth_ok t.d_Change____or__ (show FnScope ["self", "piece"] ["self", "piece"] (defScope (clsM 53 5)) from ⟨rfl, rfl, rfl, by decide +kernel, rfl, by decide +kernel, by decide +kernel⟩) fun f cdv A outer s H E ck hp => by
    unfold F_Change____or__
    exact (dss_one (ds_ret (de_call ck (h_value_of t) (da_cons (de_call ck (h_with_piece t) (da_cons (de_fld t.k_Change t.n_Change__kept (de_var 0)) (da_cons (de_var 1) da_nil))) da_nil))))
theorem h_Change____ior__ (t : Txt P K mg) : HasM P w K mg base T 7 (clsAt mg "Change") "__ior__" g_Change____ior__ :=
  meth_ok t.d_Change____ior__ (show FnScope ["self", "piece", "later"] ["self", "piece"] (defScope (clsM 53 6)) from ⟨rfl, rfl, rfl, by decide +kernel, rfl, by decide +kernel, by decide +kernel⟩) fun f cdv A outer s H E ck hp => by
    unfold F_Change____ior__
    exact (dss_cons (ds_set 2 ck (de_call ck (h_with_piece t) (da_cons (de_fld t.k_Change t.n_Change__kept (de_var 0)) (da_cons (de_var 1) da_nil))))
    (dss_cons (ds_expr (de_call ck (h_need_change t) (da_cons (de_var 2) da_nil)))
    (dss_cons (ds_fld t.k_Change t.n_Change__kept (de_var 0) (de_var 2))
    (dss_one (ds_ret (de_var 0))))))
theorem h_Change____sub__ (t : Txt P K mg) : HasM P w K mg base T 10 (clsAt mg "Change") "__sub__" g_Change____sub__ :=
  meth_ok t.d_Change____sub__ (show FnScope ["self", "index"] ["self", "index"] (defScope (clsM 53 7)) from ⟨rfl, rfl, rfl, by decide +kernel, rfl, by decide +kernel, by decide +kernel⟩) fun f cdv A outer s H E ck hp => by
    unfold F_Change____sub__
    exact (dss_cons (ds_expr (de_call ck (h_need_index t) (da_cons (de_fld t.k_Change t.n_Change__kept (de_var 0)) (da_cons (de_var 1) da_nil))))
    (dss_one (ds_ret (de_call ck (h_value_of t) (da_cons (de_op op_addA os_add (de_sl (de_fld t.k_Change t.n_Change__kept (de_var 0)) dp_none (dp_some (de_var 1))) (de_sl (de_fld t.k_Change t.n_Change__kept (de_var 0)) (dp_some (de_op op_addA os_add (de_var 1) de_int)) dp_none)) da_nil)))))
theorem h_Change____call__ (t : Txt P K mg) : HasM P w K mg base T 4 (clsAt mg "Change") "__call__" g_Change____call__ :=
  meth_ok t.d_Change____call__ (show FnScope ["self", "worth"] ["self", "worth"] (defScope (clsM 53 8)) from ⟨rfl, rfl, rfl, by decide +kernel, rfl, by decide +kernel, by decide +kernel⟩) fun f cdv A outer s H E ck hp => by
    unfold F_Change____call__
    exact (dss_cons (ds_expr (de_call ck (h_need_worth_d t) (da_cons (de_var 1) da_nil)))
    (dss_one (ds_ret (de_call ck (h_changed_by t) (da_cons (de_fld t.k_Change t.n_Change__kept (de_var 0)) (da_cons (de_var 1) da_nil))))))
theorem h_Change____getitem__ (t : Txt P K mg) : HasM P w K mg base T 3 (clsAt mg "Change") "__getitem__" g_Change____getitem__ :=
  meth_ok t.d_Change____getitem__ (show FnScope ["self", "index"] ["self", "index"] (defScope (clsM 53 9)) from ⟨rfl, rfl, rfl, by decide +kernel, rfl, by decide +kernel, by decide +kernel⟩) fun f cdv A outer s H E ck hp => by
    unfold F_Change____getitem__
    exact (dss_cons (ds_expr (de_call ck (h_need_index t) (da_cons (de_fld t.k_Change t.n_Change__kept (de_var 0)) (da_cons (de_var 1) da_nil))))
    (dss_one (ds_ret (de_ix (de_fld t.k_Change t.n_Change__kept (de_var 0)) (de_var 1)))))
theorem h_Change____contains__ (t : Txt P K mg) : HasM P w K mg base T 3 (clsAt mg "Change") "__contains__" g_Change____contains__ :=
  meth_ok t.d_Change____contains__ (show FnScope ["self", "value"] ["self", "value"] (defScope (clsM 53 10)) from ⟨rfl, rfl, rfl, by decide +kernel, rfl, by decide +kernel, by decide +kernel⟩) fun f cdv A outer s H E ck hp => by
    unfold F_Change____contains__
    exact (dss_one (ds_ret (de_and (de_isi .int t.z_isinstance PyProof.Rows.boot_isinstance t.z_int PyProof.Rows.boot_int (de_var 1)) (de_and (de_not (de_isi .bool t.z_isinstance PyProof.Rows.boot_isinstance t.z_bool PyProof.Rows.boot_bool (de_var 1))) (de_one (de_notN (de_call ck (h_piece_of t) (da_cons (de_fld t.k_Change t.n_Change__kept (de_var 0)) (da_cons (de_var 1) da_nil)))))))))
theorem h_Change____len__ (t : Txt P K mg) : HasM P w K mg base T 1 (clsAt mg "Change") "__len__" g_Change____len__ :=
  meth_ok t.d_Change____len__ (show FnScope ["self"] ["self"] (defScope (clsM 53 11)) from ⟨rfl, rfl, rfl, by decide +kernel, rfl, by decide +kernel, by decide +kernel⟩) fun f cdv A outer s H E ck hp => by
    unfold F_Change____len__
    exact (dss_one (ds_ret (de_blt call_len bs_len t.z_len PySem.boot_len (da_cons (de_fld t.k_Change t.n_Change__kept (de_var 0)) da_nil))))
theorem h_first_kept (t : Txt P K mg) : HasFn P w K mg base T 5 "first_kept" g_first_kept :=
  fn_okD t.d_first_kept (show FnScope ["change"] ["change"] (defScope (topS 54)) from ⟨rfl, rfl, rfl, by decide +kernel, rfl, by decide +kernel, by decide +kernel⟩) fun f cdv A outer s H E ck hp => by
    unfold F_first_kept
    exact (dss_one (ds_ret (de_call ck (h_twice_of t) (da_cons (de_tup (da_cons (de_var 0) (da_cons (de_tup (da_cons de_str da_nil)) da_nil))) (da_cons (de_un un_negA os_neg (de_gint t.c_BEYOND)) da_nil)))))
theorem h_Change____bool__ (t : Txt P K mg) : HasM P w K mg base T 6 (clsAt mg "Change") "__bool__" g_Change____bool__ :=
  meth_ok t.d_Change____bool__ (show FnScope ["self"] ["self"] (defScope (clsM 53 12)) from ⟨rfl, rfl, rfl, by decide +kernel, rfl, by decide +kernel, by decide +kernel⟩) fun f cdv A outer s H E ck hp => by
    unfold F_Change____bool__
    exact (dss_one (ds_ret (de_bty call_bool1 bs_bool t.z_bool PyProof.Rows.boot_bool (da_cons (de_isN (de_call ck (h_first_kept t) (da_cons (de_fld t.k_Change t.n_Change__kept (de_var 0)) da_nil))) da_nil))))
theorem h_Change____eq__ (t : Txt P K mg) : HasM P w K mg base T 1 (clsAt mg "Change") "__eq__" g_Change____eq__ :=
  meth_ok t.d_Change____eq__ (show FnScope ["self", "other"] ["self", "other"] (defScope (clsM 53 14)) from ⟨rfl, rfl, rfl, by decide +kernel, rfl, by decide +kernel, by decide +kernel⟩) fun f cdv A outer s H E ck hp => by
    unfold F_Change____eq__
    exact (dss_one (ds_ret (de_and (de_isO t.ops_Change.iso t.k_Change t.z_isinstance (de_var 1) (pe_glob rfl t.k_Change.at_ (v := .ref _) rfl)) (de_one (de_cmp (op_eqD ck.hu) os_eq (de_fld t.k_Change t.n_Change__kept (de_var 0)) (de_fld t.k_Change t.n_Change__kept (de_var 1)))))))
theorem h_Change__like (t : Txt P K mg) : HasM P w K mg base T 4 (clsAt mg "Change") "like" g_Change__like :=
  meth_ok t.d_Change__like (show FnScope ["self", "other"] ["self", "other"] (defScope (clsM 53 15)) from ⟨rfl, rfl, rfl, by decide +kernel, rfl, by decide +kernel, by decide +kernel⟩) fun f cdv A outer s H E ck hp => by
    unfold F_Change__like
    exact (dss_cons (ds_if (dt_not (dt_val (de_isO t.ops_Change.iso t.k_Change t.z_isinstance (de_var 1) (pe_glob rfl t.k_Change.at_ (v := .ref _) rfl)))) (dss_one (ds_raise ck t.x_Unlike)) dss_nil)
    (dss_one (ds_ret (de_isN (de_call ck (h_first_unlike t) (da_cons (de_fld t.k_Change t.n_Change__kept (de_var 0)) (da_cons (de_fld t.k_Change t.n_Change__kept (de_var 1)) (da_cons (de_un un_negA os_neg (de_gint t.c_BEYOND)) da_nil))))))))
theorem h__law_drum (t : Txt P K mg) : HasFn P w K mg base T 1 "_law_drum" g__law_drum :=
  fn_okD t.d__law_drum (show FnScope ["cell", "turn", "great"] ["cell", "turn"] (defScope (topS 56)) from ⟨rfl, rfl, rfl, by decide +kernel, rfl, by decide +kernel, by decide +kernel⟩) fun f cdv A outer s H E ck hp => by
    unfold F__law_drum
    exact (dss_cons (ds_set 2 ck (de_if (dt_cmp op_ge os_cmpI (de_var 0) (de_op op_pow os_pow de_int de_int)) (de_op op_addA os_add (de_op op_fdivA os_div (de_var 0) de_int) (de_op op_mulA os_mul de_int (de_var 1))) de_int))
    (dss_one (ds_ret (de_lstM (da_cons (de_var 2) (da_cons (de_op op_addA os_add (de_op op_modN os_mod (de_bty (call_int1.or call_int_str) bs_int t.z_int PyProof.Rows.boot_int (da_cons (de_op op_addA os_add (de_op op_mulA os_mul (de_var 0) de_int) (de_op op_mulA os_mul de_int (de_var 1))) da_nil)) de_int) de_int) da_nil))))))
theorem h__law_roll (t : Txt P K mg) : HasFn P w K mg base T 1 "_law_roll" g__law_roll :=
  fn_okD t.d__law_roll (show FnScope ["drum", "many", "found", "deep"] ["drum", "many"] (defScope (topS 57)) from ⟨rfl, rfl, rfl, by decide +kernel, rfl, by decide +kernel, by decide +kernel⟩) fun f cdv A outer s H E ck hp => by
    unfold F__law_roll
    exact (dss_cons (ds_if (dt_cmp op_gt os_cmpI (de_ix (de_var 0) de_int) de_int) (dss_cons (ds_set 2 ck (de_op op_modN os_mod (de_bty (call_int1.or call_int_str) bs_int t.z_int PyProof.Rows.boot_int (da_cons (de_ix (de_var 0) de_int) da_nil)) (de_var 1)))
    (dss_cons (ds_sub (de_op op_fdivA os_div (de_ix (de_var 0) de_int) (de_var 1)) (de_var 0) de_int)
    (dss_one (ds_ret (de_var 2))))) dss_nil)
    (dss_cons (ds_sub (de_op op_modN os_mod (de_bty (call_int1.or call_int_str) bs_int t.z_int PyProof.Rows.boot_int (da_cons (de_op op_addA os_add (de_op op_mulA os_mul (de_ix (de_var 0) de_int) de_int) de_int) da_nil)) de_int) (de_var 0) de_int)
    (dss_cons (ds_set 3 ck (de_op op_modN os_mod (de_bty (call_int1.or call_int_str) bs_int t.z_int PyProof.Rows.boot_int (da_cons (de_op op_mulA os_mul (de_ix (de_var 0) de_int) (de_op op_addA os_add (de_ix (de_var 0) de_int) de_int)) da_nil)) de_int))
    (dss_one (ds_ret (de_op op_modN os_mod (de_bty (call_int1.or call_int_str) bs_int t.z_int PyProof.Rows.boot_int (da_cons (de_op op_fdivA os_div (de_var 3) de_int) da_nil)) (de_var 1)))))))
theorem h__law_some (t : Txt P K mg) : HasFn P w K mg base T 2 "_law_some" g__law_some :=
  fn_okD t.d__law_some (show FnScope ["drum", "things"] ["drum", "things"] (defScope (topS 58)) from ⟨rfl, rfl, rfl, by decide +kernel, rfl, by decide +kernel, by decide +kernel⟩) fun f cdv A outer s H E ck hp => by
    unfold F__law_some
    exact (dss_one (ds_ret (de_ix (de_var 1) (de_call ck (h__law_roll t) (da_cons (de_var 0) (da_cons (de_blt call_len bs_len t.z_len PySem.boot_len (da_cons (de_var 1) da_nil)) da_nil))))))
theorem h__law_change (t : Txt P K mg) : HasFn P w K mg base T 3 "_law_change" g__law_change :=
  fn_okD t.d__law_change (show FnScope ["drum", "most", "pieces", "low", "turn", "high", "word", "by"] ["drum", "most"] (defScope (topS 59)) from ⟨rfl, rfl, rfl, by decide +kernel, rfl, by decide +kernel, by decide +kernel⟩) fun f cdv A outer s H E ck hp => by
    unfold F__law_change
    exact (dss_cons (ds_par 2 3 ck (de_lstM da_nil) (de_op op_addA os_add (de_un un_negA os_neg de_int) (de_call ck (h__law_roll t) (da_cons (de_var 0) (da_cons de_int da_nil)))))
    (dss_cons (ds_for ck hp (di_range1 (de_op op_addA os_add de_int (de_call ck (h__law_roll t) (da_cons (de_var 0) (da_cons de_int da_nil)))) t.z_range) (dg_name 4 ck.nd) (dss_cons (ds_set 5 ck (de_op op_addA os_add (de_var 3) (de_call ck (h__law_some t) (da_cons (de_var 0) (da_cons (de_lst (da_cons de_int (da_cons de_int (da_cons de_int (da_cons de_int (da_cons de_int da_nil)))))) da_nil)))))
    (dss_cons (ds_set 6 ck (de_call ck (h__law_some t) (da_cons (de_var 0) (da_cons (de_lst (da_cons de_str (da_cons de_str (da_cons de_str (da_cons de_str da_nil))))) da_nil))))
    (dss_cons (ds_set 7 ck (de_if (dt_cmp (op_eqD ck.hu) os_eq (de_var 6) de_str) (de_op op_mulA os_mul (de_call ck (h__law_some t) (da_cons (de_var 0) (da_cons (de_lst (da_cons (de_un un_negA os_neg de_int) (da_cons de_int (da_cons de_int da_nil)))) da_nil))) (de_op op_addA os_add de_int (de_call ck (h__law_roll t) (da_cons (de_var 0) (da_cons (de_var 1) da_nil))))) (de_op op_addA os_add (de_un un_negA os_neg de_int) (de_call ck (h__law_roll t) (da_cons (de_var 0) (da_cons de_int da_nil))))))
    (dss_cons (ds_expr (de_app (de_var 2) (de_tup (da_cons (de_var 3) (da_cons (de_var 5) (da_cons (de_var 6) (da_cons (de_var 7) da_nil)))))))
    (dss_one (ds_set 3 ck (de_op op_addA os_add (de_op op_addA os_add (de_var 5) de_int) (de_call ck (h__law_some t) (da_cons (de_var 0) (da_cons (de_lst (da_cons de_int (da_cons de_int (da_cons de_int (da_cons de_int da_nil))))) da_nil)))))))))))
    (dss_cons (ds_if (dt_cmp (op_eqD ck.hu) os_eq (de_call ck (h__law_roll t) (da_cons (de_var 0) (da_cons de_int da_nil))) de_int) (dss_one (ds_sub (de_op op_addA os_add (de_tup (da_cons de_non da_nil)) (de_sl (de_ix (de_var 2) de_int) (dp_some de_int) dp_none)) (de_var 2) de_int)) dss_nil)
    (dss_cons (ds_if (dt_cmp (op_eqD ck.hu) os_eq (de_call ck (h__law_roll t) (da_cons (de_var 0) (da_cons de_int da_nil))) de_int) (dss_one (ds_sub (de_op op_addA os_add (de_tup (da_cons (de_ix (de_ix (de_var 2) (de_un un_negA os_neg de_int)) de_int) (da_cons de_non da_nil))) (de_sl (de_ix (de_var 2) (de_un un_negA os_neg de_int)) (dp_some de_int) dp_none)) (de_var 2) (de_un un_negA os_neg de_int))) dss_nil)
    (dss_one (ds_ret (de_bty call_tuple_of bs_tup t.z_tuple PyProof.Rows.boot_tuple (da_cons (de_var 2) da_nil))))))))
theorem h__law_has (t : Txt P K mg) : HasFn P w K mg base T 1 "_law_has" g__law_has :=
  fn_okD t.d__law_has (show FnScope ["low", "high", "worth"] ["low", "high", "worth"] (defScope (topS 60)) from ⟨rfl, rfl, rfl, by decide +kernel, rfl, by decide +kernel, by decide +kernel⟩) fun f cdv A outer s H E ck hp => by
    unfold F__law_has
    exact (dss_one (ds_ret (de_and (de_or (de_isN (de_var 0)) (de_one (de_cmp op_le os_cmpI (de_var 0) (de_var 2)))) (de_one (de_or (de_isN (de_var 1)) (de_one (de_cmp op_le os_cmpI (de_var 2) (de_var 1))))))))
theorem h__law_piece (t : Txt P K mg) : HasFn P w K mg base T 2 "_law_piece" g__law_piece :=
  fn_okD t.d__law_piece (show FnScope ["change_so", "worth", "piece"] ["change_so", "worth"] (defScope (topS 61)) from ⟨rfl, rfl, rfl, by decide +kernel, rfl, by decide +kernel, by decide +kernel⟩) fun f cdv A outer s H E ck hp => by
    unfold F__law_piece
    exact (dss_cons (ds_for ck hp (di_seq (de_var 0)) (dg_name 2 ck.nd) (dss_one (ds_if (dt_val (de_call ck (h__law_has t) (da_cons (de_ix (de_var 2) de_int) (da_cons (de_ix (de_var 2) de_int) (da_cons (de_var 1) da_nil))))) (dss_one (ds_ret (de_var 2))) dss_nil)))
    (dss_one (ds_ret de_non)))
theorem h__law_changed (t : Txt P K mg) : HasFn P w K mg base T 3 "_law_changed" g__law_changed :=
  fn_okD t.d__law_changed (show FnScope ["change_so", "worth", "piece"] ["change_so", "worth"] (defScope (topS 62)) from ⟨rfl, rfl, rfl, by decide +kernel, rfl, by decide +kernel, by decide +kernel⟩) fun f cdv A outer s H E ck hp => by
    unfold F__law_changed
    exact (dss_cons (ds_set 2 ck (de_call ck (h__law_piece t) (da_cons (de_var 0) (da_cons (de_var 1) da_nil))))
    (dss_cons (ds_if (dt_isN (de_var 2)) (dss_one (ds_ret (de_var 1))) dss_nil)
    (dss_one (ds_ret (de_if (dt_cmp (op_eqD ck.hu) os_eq (de_ix (de_var 2) de_int) de_str) (de_op op_addA os_add (de_var 1) (de_ix (de_var 2) de_int)) (de_ix (de_var 2) de_int))))))
theorem h__law_names (t : Txt P K mg) : HasNm P w K mg base T 1 "_law_names" (NmR K mg) :=
  nm_ok t.d__law_names (show FnScope ["e", "some", "labels", "label", "good"] ["e"] (defScope (topS 63)) from ⟨rfl, rfl, rfl, by decide +kernel, rfl, by decide +kernel, by decide +kernel⟩) fun f cdv A outer s H E a0 D oe nm hot hz hrow hu => by
    obtain ⟨i, hl, hr⟩ := hrow
    have hfl : ∃ vs, oe.data = .fields vs := let ⟨_, vs, e, _⟩ := hot; ⟨vs, e⟩
    obtain ⟨A0, g0⟩ := t.o_InvalidChange
    obtain ⟨A1, g1⟩ := t.o_InvalidPiece
    obtain ⟨A2, g2⟩ := t.o_InvalidStatement
    obtain ⟨A3, g3⟩ := t.o_InvalidWorth
    obtain ⟨A4, g4⟩ := t.o_InvalidNumber
    obtain ⟨A5, g5⟩ := t.o_InvalidOrder
    obtain ⟨A6, g6⟩ := t.o_InvalidPrices
    obtain ⟨A7, g7⟩ := t.o_InvalidPairs
    obtain ⟨A8, g8⟩ := t.o_InvalidText
    obtain ⟨A9, g9⟩ := t.o_InvalidIndex
    obtain ⟨A10, g10⟩ := t.o_InvalidRow
    obtain ⟨A11, g11⟩ := t.o_InvalidTable
    obtain ⟨A12, g12⟩ := t.o_Unlike
    obtain ⟨A13, g13⟩ := t.o_Done
    obtain ⟨A14, g14⟩ := t.o_NothingToUndo
    obtain ⟨A15, g15⟩ := t.o_TooMany
    have nd : (["e", "some", "labels", "label", "good"] : List Str).Nodup := by decide +kernel
    refine ⟨F_names a0 (bOf i), ?_, fun μ => names_eval a0 i nm μ hl⟩
    unfold F_names
    exact (dss_cons (ds_setN 1 nd (de_lst (da_cons (de_isX hr.exc hz hfl List.mem_cons_self t.z_isinstance PyProof.Rows.boot_isinstance (pe_glob rfl g0 (v := .ref A0) rfl) (fun _ h => h) (hr.own 0 _ _ rfl g0) (de_var 0)) (da_cons (de_isX hr.exc hz hfl List.mem_cons_self t.z_isinstance PyProof.Rows.boot_isinstance (pe_glob rfl g1 (v := .ref A1) rfl) (fun _ h => h) (hr.own 1 _ _ rfl g1) (de_var 0)) (da_cons (de_isX hr.exc hz hfl List.mem_cons_self t.z_isinstance PyProof.Rows.boot_isinstance (pe_glob rfl g2 (v := .ref A2) rfl) (fun _ h => h) (hr.own 2 _ _ rfl g2) (de_var 0)) da_nil)))))
    (dss_cons (ds_setN 1 nd (de_op op_addA os_add (de_var 1) (de_lst (da_cons (de_isX hr.exc hz hfl List.mem_cons_self t.z_isinstance PyProof.Rows.boot_isinstance (pe_glob rfl g3 (v := .ref A3) rfl) (fun _ h => h) (hr.own 3 _ _ rfl g3) (de_var 0)) (da_cons (de_isX hr.exc hz hfl List.mem_cons_self t.z_isinstance PyProof.Rows.boot_isinstance (pe_glob rfl g4 (v := .ref A4) rfl) (fun _ h => h) (hr.own 4 _ _ rfl g4) (de_var 0)) (da_cons (de_isX hr.exc hz hfl List.mem_cons_self t.z_isinstance PyProof.Rows.boot_isinstance (pe_glob rfl g5 (v := .ref A5) rfl) (fun _ h => h) (hr.own 5 _ _ rfl g5) (de_var 0)) da_nil))))))
    (dss_cons (ds_setN 1 nd (de_op op_addA os_add (de_var 1) (de_lst (da_cons (de_isX hr.exc hz hfl List.mem_cons_self t.z_isinstance PyProof.Rows.boot_isinstance (pe_glob rfl g6 (v := .ref A6) rfl) (fun _ h => h) (hr.own 6 _ _ rfl g6) (de_var 0)) (da_cons (de_isX hr.exc hz hfl List.mem_cons_self t.z_isinstance PyProof.Rows.boot_isinstance (pe_glob rfl g7 (v := .ref A7) rfl) (fun _ h => h) (hr.own 7 _ _ rfl g7) (de_var 0)) (da_cons (de_isX hr.exc hz hfl List.mem_cons_self t.z_isinstance PyProof.Rows.boot_isinstance (pe_glob rfl g8 (v := .ref A8) rfl) (fun _ h => h) (hr.own 8 _ _ rfl g8) (de_var 0)) da_nil))))))
    (dss_cons (ds_setN 1 nd (de_op op_addA os_add (de_var 1) (de_lst (da_cons (de_isX hr.exc hz hfl List.mem_cons_self t.z_isinstance PyProof.Rows.boot_isinstance (pe_glob rfl g9 (v := .ref A9) rfl) (fun _ h => h) (hr.own 9 _ _ rfl g9) (de_var 0)) (da_cons (de_isX hr.exc hz hfl List.mem_cons_self t.z_isinstance PyProof.Rows.boot_isinstance (pe_glob rfl g10 (v := .ref A10) rfl) (fun _ h => h) (hr.own 10 _ _ rfl g10) (de_var 0)) (da_cons (de_isX hr.exc hz hfl List.mem_cons_self t.z_isinstance PyProof.Rows.boot_isinstance (pe_glob rfl g11 (v := .ref A11) rfl) (fun _ h => h) (hr.own 11 _ _ rfl g11) (de_var 0)) da_nil))))))
    (dss_cons (ds_setN 1 nd (de_op op_addA os_add (de_var 1) (de_lst (da_cons (de_isX hr.exc hz hfl List.mem_cons_self t.z_isinstance PyProof.Rows.boot_isinstance (pe_glob rfl g12 (v := .ref A12) rfl) (fun _ h => h) (hr.own 12 _ _ rfl g12) (de_var 0)) (da_cons (de_isX hr.exc hz hfl List.mem_cons_self t.z_isinstance PyProof.Rows.boot_isinstance (pe_glob rfl g13 (v := .ref A13) rfl) (fun _ h => h) (hr.own 13 _ _ rfl g13) (de_var 0)) (da_cons (de_isX hr.exc hz hfl List.mem_cons_self t.z_isinstance PyProof.Rows.boot_isinstance (pe_glob rfl g14 (v := .ref A14) rfl) (fun _ h => h) (hr.own 14 _ _ rfl g14) (de_var 0)) da_nil))))))
    (dss_cons (ds_setN 1 nd (de_op op_addA os_add (de_var 1) (de_lst (da_cons (de_isX hr.exc hz hfl List.mem_cons_self t.z_isinstance PyProof.Rows.boot_isinstance (pe_glob rfl g15 (v := .ref A15) rfl) (fun _ h => h) (hr.own 15 _ _ rfl g15) (de_var 0)) (da_cons (de_isX hr.exc hz hfl List.mem_cons_self t.z_isinstance PyProof.Rows.boot_isinstance (pe_bltn rfl t.z_ValueError PyProof.Rows.Boot.«ValueError» (v := .ty "ValueError") rfl) (fun _ h => h) hr.val (de_var 0)) da_nil)))))
    (dss_cons (ds_setN 2 nd de_str)
    (dss_one (ds_ret (de_join de_str (de_lcH (own := [("label", 3), ("good", 4)]) hot List.mem_cons_self nd (di_zipH (de_split (de_var 2) de_str) (de_var 1) t.z_zip) (blkOk_by (by kernel_rfl)) (fun _ _ _ _ _ => dg_tupH ⟨_, hot, List.mem_singleton.mpr rfl⟩ (dgs_cons (dg_name 3 nd) (dgs_cons (dg_name 4 nd) dgs_nil))) (fun _ _ _ _ _ => dc_one (dt_val (de_var 4))) (fun _ _ _ _ _ => de_var 3))))))))))))
theorem h_err (t : Txt P K mg) : HasTry P w K mg base T 1 "_law_error" (nmC clsL) :=
  try_ok t.d__law_error (show FnScope ["call", "e"] ["call"] (defScope (topS 64)) from ⟨rfl, rfl, rfl, by decide +kernel, rfl, by decide +kernel, by decide +kernel⟩) ⟨_, _, _, _, _, _, _, _, _, _, _, _, _, rfl⟩ rfl rfl rfl rfl (h__law_names t) t.o_WalkError t.r_cls
theorem h__law_value (t : Txt P K mg) : HasFn P w K mg base T 9 "_law_value" g__law_value :=
  fn_okD t.d__law_value (show FnScope ["pieces"] ["pieces"] (defScope (topS 65)) from ⟨rfl, rfl, rfl, by decide +kernel, rfl, by decide +kernel, by decide +kernel⟩) fun f cdv A outer s H E ck hp => by
    unfold F__law_value
    exact (dss_cons (ds_if (dt_cmp (op_eqD ck.hu) os_eq (de_blt call_len bs_len t.z_len PySem.boot_len (da_cons (de_var 0) da_nil)) de_int) (dss_one (ds_ret (de_newS ck t.k_Change.at_ (h_Change____init__ t) (da_cons (de_ix (de_var 0) de_int) da_nil)))) dss_nil)
    (dss_cons (ds_if (dt_cmp (op_eqD ck.hu) os_eq (de_blt call_len bs_len t.z_len PySem.boot_len (da_cons (de_var 0) da_nil)) de_int) (dss_one (ds_ret (de_newS ck t.k_Change.at_ (h_Change____init__ t) (da_cons (de_ix (de_var 0) de_int) (da_cons (de_ix (de_var 0) de_int) da_nil))))) dss_nil)
    (dss_cons (ds_if (dt_cmp (op_eqD ck.hu) os_eq (de_blt call_len bs_len t.z_len PySem.boot_len (da_cons (de_var 0) da_nil)) de_int) (dss_one (ds_ret (de_newS ck t.k_Change.at_ (h_Change____init__ t) (da_cons (de_ix (de_var 0) de_int) (da_cons (de_ix (de_var 0) de_int) (da_cons (de_ix (de_var 0) de_int) da_nil)))))) dss_nil)
    (dss_one (ds_ret (de_newS ck t.k_Change.at_ (h_Change____init__ t) (da_cons (de_ix (de_var 0) de_int) (da_cons (de_ix (de_var 0) de_int) (da_cons (de_ix (de_var 0) de_int) (da_cons (de_ix (de_var 0) de_int) da_nil))))))))))
theorem h__law_moved (t : Txt P K mg) : HasFn P w K mg base T 1 "_law_moved" g__law_moved :=
  fn_okD t.d__law_moved (show FnScope ["change_so", "ticks", "found", "low", "high", "word", "by"] ["change_so", "ticks"] (defScope (topS 66)) from ⟨rfl, rfl, rfl, by decide +kernel, rfl, by decide +kernel, by decide +kernel⟩) fun f cdv A outer s H E ck hp => by
    unfold F__law_moved
    exact (dss_cons (ds_set 2 ck (de_lstM da_nil))
    (dss_cons (ds_for ck hp (di_seq (de_var 0)) (dg_tup ck.calm (dgs_cons (dg_name 3 ck.nd) (dgs_cons (dg_name 4 ck.nd) (dgs_cons (dg_name 5 ck.nd) (dgs_cons (dg_name 6 ck.nd) dgs_nil))))) (dss_cons (ds_set 3 ck (de_if (dt_isN (de_var 3)) de_non (de_op op_addA os_add (de_var 3) (de_var 1))))
    (dss_cons (ds_set 4 ck (de_if (dt_isN (de_var 4)) de_non (de_op op_addA os_add (de_var 4) (de_var 1))))
    (dss_one (ds_expr (de_app (de_var 2) (de_tup (da_cons (de_var 3) (da_cons (de_var 4) (da_cons (de_var 5) (da_cons (de_if (dt_cmp (op_eqD ck.hu) os_eq (de_var 5) de_str) (de_var 6) (de_op op_addA os_add (de_var 6) (de_var 1))) da_nil)))))))))))
    (dss_one (ds_ret (de_bty call_tuple_of bs_tup t.z_tuple PyProof.Rows.boot_tuple (da_cons (de_var 2) da_nil))))))
theorem h__law_turned (t : Txt P K mg) : HasFn P w K mg base T 1 "_law_turned" g__law_turned :=
  fn_okD t.d__law_turned (show FnScope ["change_so", "found", "low", "high", "word", "by"] ["change_so"] (defScope (topS 67)) from ⟨rfl, rfl, rfl, by decide +kernel, rfl, by decide +kernel, by decide +kernel⟩) fun f cdv A outer s H E ck hp => by
    unfold F__law_turned
    exact (dss_cons (ds_set 1 ck (de_lst da_nil))
    (dss_cons (ds_for ck hp (di_seq (de_var 0)) (dg_tup ck.calm (dgs_cons (dg_name 2 ck.nd) (dgs_cons (dg_name 3 ck.nd) (dgs_cons (dg_name 4 ck.nd) (dgs_cons (dg_name 5 ck.nd) dgs_nil))))) (dss_one (ds_set 1 ck (de_op op_addA os_add (de_lst (da_cons (de_tup (da_cons (de_if (dt_isN (de_var 3)) de_non (de_un un_negA os_neg (de_var 3))) (da_cons (de_if (dt_isN (de_var 2)) de_non (de_un un_negA os_neg (de_var 2))) (da_cons (de_var 4) (da_cons (de_un un_negA os_neg (de_var 5)) da_nil))))) da_nil)) (de_var 1)))))
    (dss_one (ds_ret (de_bty call_tuple_of bs_tup t.z_tuple PyProof.Rows.boot_tuple (da_cons (de_var 1) da_nil))))))
theorem h__law_settles (t : Txt P K mg) : HasFn P w K mg base T 4 "_law_settles" g__law_settles :=
  fn_okD t.d__law_settles (show FnScope ["change_so", "worth", "goal"] ["change_so"] (defScope (topS 68)) from ⟨rfl, rfl, rfl, by decide +kernel, rfl, by decide +kernel, by decide +kernel⟩) fun f cdv A outer s H E ck hp => by
    unfold F__law_settles
    exact (dss_cons (ds_for ck hp (di_range2 (de_un un_negA os_neg de_int) de_int t.z_range) (dg_name 1 ck.nd) (dss_cons (ds_set 2 ck (de_call ck (h__law_changed t) (da_cons (de_var 0) (da_cons (de_var 1) da_nil))))
    (dss_one (ds_if (dt_w (dw_and (dt_notN (de_call ck (h__law_piece t) (da_cons (de_var 0) (da_cons (de_var 1) da_nil)))) (dw_and1 (dt_notN (de_call ck (h__law_piece t) (da_cons (de_var 0) (da_cons (de_var 2) da_nil))))))) (dss_one (ds_ret de_bl)) dss_nil))))
    (dss_one (ds_ret de_bl)))
theorem h_out (t : Txt P K mg) : HasOut P w K mg base T 1 "_law_outcome" "pieces" (nmC clsL) :=
  out_ok t.d__law_outcome (show FnScope ["call", "e"] ["call"] (defScope (topS 69)) from ⟨rfl, rfl, rfl, by decide +kernel, rfl, by decide +kernel, by decide +kernel⟩) ⟨_, _, _, _, _, _, _, _, _, _, _, rfl⟩ rfl rfl rfl rfl (h__law_names t) t.o_WalkError t.r_cls
theorem h__law_taken (t : Txt P K mg) : HasFn P w K mg base T 9 "_law_taken" g__law_taken :=
  fn_okD t.d__law_taken (show FnScope ["value", "piece", "e"] ["value", "piece"] (defScope (topS 70)) from ⟨rfl, rfl, rfl, by decide +kernel, rfl, by decide +kernel, by decide +kernel⟩) fun f cdv A outer s H E ck hp => by
    unfold F__law_taken
    exact (dss_cons (ds_tryN 2 (tryN_ok (h__law_names t) t.o_WalkError t.r_cls) ck (fun _ _ _ ck => (dss_one (ds_augM (op := .BitOr) 0 ck t.k_Change t.ops_Change.sf (h_Change____ior__ t) (de_var 1)))))
    (dss_one (ds_ret de_str)))
theorem h__law_more_right (t : Txt P K mg) (l : LTxt K mg base T) : HasFn P w K mg base T 14 "_law_more_right" g__law_more_right :=
  fn_okL l.l__law_more_right (show FnScope ["change_so", "piece", "value", "below", "above", "apart", "due", "one"] ["change_so", "piece"] (defScope (topS 71)) from ⟨rfl, rfl, rfl, by decide +kernel, rfl, by decide +kernel, by decide +kernel⟩) fun f cdv A outer s H E ck hp la => by
    unfold F__law_more_right
    exact (dss_cons (ds_set 2 ck (de_call ck (h__law_value t) (da_cons (de_var 0) da_nil)))
    (dss_cons (ds_set 3 ck (de_bty call_tuple_of bs_tup t.z_tuple PyProof.Rows.boot_tuple (da_cons (de_lc ck (di_seq (de_var 0)) (blkOk_by (own := [("one", 7)]) (by kernel_rfl)) (fun _ _ _ _ _ => (dg_name 7 ck.nd)) (fun _ _ _ _ _ ck => (dc_one (dt_w (dw_and (dt_notN (de_ix (de_var 7) de_int)) (dw_and1 (dt_cmp op_lt os_cmpI (de_ix (de_var 7) de_int) (de_ix (de_var 1) de_int))))))) (fun _ _ _ _ _ ck => (de_var 7))) da_nil)))
    (dss_cons (ds_set 4 ck (de_bty call_tuple_of bs_tup t.z_tuple PyProof.Rows.boot_tuple (da_cons (de_lc ck (di_seq (de_var 0)) (blkOk_by (own := [("one", 7)]) (by kernel_rfl)) (fun _ _ _ _ _ => (dg_name 7 ck.nd)) (fun _ _ _ _ _ ck => (dc_one (dt_w (dw_and (dt_notN (de_ix (de_var 7) de_int)) (dw_and1 (dt_cmp op_gt os_cmpI (de_ix (de_var 7) de_int) (de_ix (de_var 1) de_int))))))) (fun _ _ _ _ _ ck => (de_var 7))) da_nil)))
    (dss_cons (ds_set 5 ck (de_cmp (op_eqD ck.hu) os_eq (de_op op_addA os_add (de_blt call_len bs_len t.z_len PySem.boot_len (da_cons (de_var 3) da_nil)) (de_blt call_len bs_len t.z_len PySem.boot_len (da_cons (de_var 4) da_nil))) (de_blt call_len bs_len t.z_len PySem.boot_len (da_cons (de_var 0) da_nil))))
    (dss_cons (ds_set 6 ck (de_if (dt_w (dw_and (dt_val (de_var 5)) (dw_and1 (dt_cmp op_lt os_cmpI (de_blt call_len bs_len t.z_len PySem.boot_len (da_cons (de_var 0) da_nil)) de_int)))) (de_op op_addA os_add (de_op op_addA os_add (de_var 3) (de_tup (da_cons (de_var 1) da_nil))) (de_var 4)) de_str))
    (dss_cons (ds_if (dt_cmp (op_neD ck.hu) os_ne (de_out (k := 11) (h_out t) t.k_Change (h_Change__pieces t) la ck (fun _ _ _ _ _ _ _ ck => (de_binM (op := .BitOr) ck t.k_Change t.ops_Change.sf (h_Change____or__ t) t.n_Change____ror__ opTys_or (de_var 2) (de_var 1)))) (de_var 6)) (dss_one (ds_ret de_bl)) dss_nil)
    (dss_cons (ds_if (dt_cmp (op_neD ck.hu) os_ne (de_call ck (h__law_taken t) (da_cons (de_var 2) (da_cons (de_var 1) da_nil))) (de_if (dt_cmp (op_neD ck.hu) os_ne (de_var 6) de_str) de_str (de_var 6))) (dss_one (ds_ret de_bl)) dss_nil)
    (dss_one (ds_ret (de_cmp (op_eqD ck.hu) os_eq (de_prop ck t.k_Change (h_Change__pieces t) (de_var 2)) (de_if (dt_cmp (op_neD ck.hu) os_ne (de_var 6) de_str) (de_var 6) (de_var 0))))))))))))
theorem h__law_bad_right (t : Txt P K mg) (l : LTxt K mg base T) : HasFn P w K mg base T 14 "_law_bad_right" g__law_bad_right :=
  fn_okL l.l__law_bad_right (show FnScope ["value", "one", "odd", "heard"] ["value", "one"] (defScope (topS 72)) from ⟨rfl, rfl, rfl, by decide +kernel, rfl, by decide +kernel, by decide +kernel⟩) fun f cdv A outer s H E ck hp la => by
    unfold F__law_bad_right
    exact (dss_cons (ds_for ck hp (di_seq (de_tup (da_cons de_non (da_cons (de_tup da_nil) (da_cons (de_var 1) (da_cons (de_tup (da_cons de_int (da_cons de_int (da_cons de_str (da_cons de_int da_nil))))) (da_cons (de_tup (da_cons de_int (da_cons de_int (da_cons de_str (da_cons de_int da_nil))))) (da_cons (de_lst (da_cons de_int (da_cons de_int (da_cons de_str (da_cons de_int da_nil))))) (da_cons (de_tup (da_cons de_int (da_cons de_int (da_cons de_str (da_cons de_int da_nil))))) da_nil))))))))) (dg_name 2 ck.nd) (dss_one (ds_if (dt_w (dw_or (dt_cmp (op_neD ck.hu) os_ne (de_try (k := 11) (h_err t) la ck (fun _ _ _ _ _ _ _ ck => (de_binM (op := .BitOr) ck t.k_Change t.ops_Change.sf (h_Change____or__ t) t.n_Change____ror__ opTys_or (de_var 0) (de_var 2)))) de_str) (dw_or1 (dt_cmp (op_neD ck.hu) os_ne (de_call ck (h__law_taken t) (da_cons (de_var 0) (da_cons (de_var 2) da_nil))) de_str)))) (dss_one (ds_ret de_bl)) dss_nil)))
    (dss_cons (ds_for ck hp (di_seq (de_tup (da_cons de_non (da_cons de_bl (da_cons (de_un un_negA os_neg de_int) (da_cons (de_blt call_len bs_len t.z_len PySem.boot_len (da_cons (de_var 1) da_nil)) (da_cons de_str da_nil))))))) (dg_name 2 ck.nd) (dss_cons (ds_set 3 ck (de_lstM (da_cons (de_try (k := 11) (h_err t) la ck (fun _ _ _ _ _ _ _ ck => (de_binM (op := .Sub) ck t.k_Change t.ops_Change.sf (h_Change____sub__ t) t.n_Change____rsub__ opTys_sub (de_var 0) (de_var 2)))) da_nil)))
    (dss_cons (ds_expr (de_app (de_var 3) (de_try (k := 4) (h_err t) la ck (fun _ _ _ _ _ _ _ ck => (de_ixM ck t.k_Change (h_Change____getitem__ t) t.f_Change____getitem__ (de_var 0) (de_var 2))))))
    (dss_one (ds_if (dt_cmp (op_neD ck.hu) os_ne (de_var 3) (de_op op_mulA os_mul (de_lst (da_cons de_str da_nil)) de_int)) (dss_one (ds_ret de_bl)) dss_nil)))))
    (dss_cons (ds_for ck hp (di_seq (de_tup (da_cons de_non (da_cons de_bl (da_cons (de_op op_addA os_add (de_op op_pow os_pow de_int de_int) de_int) (da_cons de_str da_nil)))))) (dg_name 2 ck.nd) (dss_cons (ds_set 3 ck (de_lstM (da_cons (de_try (k := 11) (h_err t) la ck (fun _ _ _ _ _ _ _ ck => (de_binM (op := .RShift) ck t.k_Change t.ops_Change.sf (h_Change____rshift__ t) t.n_Change____rrshift__ opTys_rshift (de_var 0) (de_var 2)))) da_nil)))
    (dss_cons (ds_expr (de_app (de_var 3) (de_try (k := 5) (h_err t) la ck (fun _ _ _ _ _ _ _ ck => (de_calM ck t.k_Change (h_Change____call__ t) t.f_Change____call__ (de_var 0) (da_cons (de_var 2) da_nil))))))
    (dss_one (ds_if (dt_cmp (op_neD ck.hu) os_ne (de_var 3) (de_op op_mulA os_mul (de_lst (da_cons de_str da_nil)) de_int)) (dss_one (ds_ret de_bl)) dss_nil)))))
    (dss_cons (ds_if (dt_cmp (op_neD ck.hu) os_ne (de_lc ck (di_seq (de_tup (da_cons de_non (da_cons (de_var 1) (da_cons de_int da_nil))))) (blkOk_by (own := [("odd", 2)]) (by kernel_rfl)) (fun _ _ _ _ _ => (dg_name 2 ck.nd)) (fun _ _ _ _ _ ck => dc_nil) (fun _ _ _ _ _ ck => (de_try (k := 5) (h_err t) la ck (fun _ _ _ _ _ _ _ ck => (de_meth ck t.k_Change (h_Change__like t) (de_var 0) (da_cons (de_var 2) da_nil)))))) (de_op op_mulA os_mul (de_lst (da_cons de_str da_nil)) de_int)) (dss_one (ds_ret de_bl)) dss_nil)
    (dss_one (ds_ret (de_cmp (op_eqD ck.hu) os_eq (de_prop ck t.k_Change (h_Change__pieces t) (de_var 0)) (de_var 1))))))))
theorem ok_law (t : Txt P K mg) (l : LTxt K mg base T) {f fd} (tl : DefL K mg base T "law" (topS 73) ["script"] f fd) : FnOk P w K mg base (L2N.CX P w) 15 f fd ["script"] (spD ⟨K, mg, T⟩ g_law) :=
  fn_okF tl (show FnScope ["script", "cell", "drum", "one", "other", "value", "second", "ticks", "worth", "at", "due", "low", "alike_so", "same", "found", "far"] ["script"] (defScope (topS 73)) from ⟨rfl, rfl, rfl, by decide +kernel, rfl, by decide +kernel, by decide +kernel⟩) fun f cdv A outer s H E ck hp la => by
    unfold F_law
    exact (dss_cons (ds_for ck hp (di_seq (de_sl (de_op op_addA os_add (de_lst (da_cons de_int da_nil)) (de_var 0)) dp_none (dp_some de_int))) (dg_name 1 ck.nd) (dss_cons (ds_set 2 ck (de_call ck (h__law_drum t) (da_cons (de_var 1) (da_cons de_int da_nil))))
    (dss_cons (ds_parT 3 4 ck (de_call ck (h__law_change t) (da_cons (de_var 2) (da_cons de_int da_nil))) (de_call ck (h__law_change t) (da_cons (de_var 2) (da_cons de_int da_nil))))
    (dss_cons (ds_parT 5 6 ck (de_call ck (h__law_value t) (da_cons (de_var 3) da_nil)) (de_call ck (h__law_value t) (da_cons (de_var 4) da_nil)))
    (dss_cons (ds_set 7 ck (de_op op_subA os_sub (de_call ck (h__law_roll t) (da_cons (de_var 2) (da_cons de_int da_nil))) de_int))
    (dss_cons (ds_if (dt_cmp (op_neD ck.hu) os_ne (de_lst (da_cons (de_prop ck t.k_Change (h_Change__pieces t) (de_var 5)) (da_cons (de_prop ck t.k_Change (h_Change__pieces t) (de_binM (op := .RShift) ck t.k_Change t.ops_Change.sf (h_Change____rshift__ t) t.n_Change____rrshift__ opTys_rshift (de_var 5) (de_var 7))) (da_cons (de_prop ck t.k_Change (h_Change__pieces t) (de_invM ck t.k_Change (h_Change____invert__ t) (de_var 5))) da_nil)))) (de_lst (da_cons (de_var 3) (da_cons (de_call ck (h__law_moved t) (da_cons (de_var 3) (da_cons (de_var 7) da_nil))) (da_cons (de_call ck (h__law_turned t) (da_cons (de_var 3) da_nil)) da_nil))))) (dss_one (ds_ret de_bl)) dss_nil)
    (dss_cons (ds_if (dt_w (dw_or (dt_cmp (op_neD ck.hu) os_ne (de_lc ck (di_range1 (de_blt call_len bs_len t.z_len PySem.boot_len (da_cons (de_var 3) da_nil)) t.z_range) (blkOk_by (own := [("at", 9)]) (by kernel_rfl)) (fun _ _ _ _ _ => (dg_name 9 ck.nd)) (fun _ _ _ _ _ ck => dc_nil) (fun _ _ _ _ _ ck => (de_ixM ck t.k_Change (h_Change____getitem__ t) t.f_Change____getitem__ (de_var 5) (de_var 9)))) (de_bty call_list_of bs_lst t.z_list PyProof.Rows.boot_list (da_cons (de_var 3) da_nil))) (dw_or1 (dt_cmp (op_neD ck.hu) os_ne (de_lenM ck t.z_len t.k_Change (h_Change____len__ t) (de_var 5)) (de_blt call_len bs_len t.z_len PySem.boot_len (da_cons (de_var 3) da_nil)))))) (dss_one (ds_ret de_bl)) dss_nil)
    (dss_cons (ds_for ck hp (di_range2 (de_un un_negA os_neg de_int) de_int t.z_range) (dg_name 8 ck.nd) (dss_one (ds_if (dt_w (dw_or (dt_cmp (op_neD ck.hu) os_ne (de_calM ck t.k_Change (h_Change____call__ t) t.f_Change____call__ (de_var 5) (da_cons (de_var 8) da_nil)) (de_call ck (h__law_changed t) (da_cons (de_var 3) (da_cons (de_var 8) da_nil)))) (dw_or1 (dt_cmp (op_neD ck.hu) os_ne (de_inM ck t.k_Change (h_Change____contains__ t) (de_var 8) (de_var 5)) (de_notN (de_call ck (h__law_piece t) (da_cons (de_var 3) (da_cons (de_var 8) da_nil)))))))) (dss_one (ds_ret de_bl)) dss_nil)))
    (dss_cons (ds_if (dt_w (dw_or (dt_cmp (op_neD ck.hu) os_ne (de_boolM ck t.z_bool t.k_Change (h_Change____bool__ t) (de_var 5)) (de_call ck (h__law_settles t) (da_cons (de_var 3) da_nil))) (dw_or (dt_inM ck t.k_Change (h_Change____contains__ t) de_non (de_var 5)) (dw_or (dt_inM ck t.k_Change (h_Change____contains__ t) de_str (de_var 5)) (dw_or (dt_inM ck t.k_Change (h_Change____contains__ t) de_bl (de_var 5)) (dw_or1 (dt_inM ck t.k_Change (h_Change____contains__ t) (de_ix (de_var 3) de_int) (de_var 5)))))))) (dss_one (ds_ret de_bl)) dss_nil)
    (dss_cons (ds_for ck hp (di_range1 (de_blt call_len bs_len t.z_len PySem.boot_len (da_cons (de_var 3) da_nil)) t.z_range) (dg_name 9 ck.nd) (dss_cons (ds_set 10 ck (de_op op_addA os_add (de_sl (de_var 3) dp_none (dp_some (de_var 9))) (de_sl (de_var 3) (dp_some (de_op op_addA os_add (de_var 9) de_int)) dp_none)))
    (dss_one (ds_if (dt_cmp (op_neD ck.hu) os_ne (de_out (k := 11) (h_out t) t.k_Change (h_Change__pieces t) la ck (fun _ _ _ _ _ _ _ ck => (de_binM (op := .Sub) ck t.k_Change t.ops_Change.sf (h_Change____sub__ t) t.n_Change____rsub__ opTys_sub (de_var 5) (de_var 9)))) (de_if (dt_cmp (op_neD ck.hu) os_ne (de_var 10) (de_tup da_nil)) (de_var 10) de_str)) (dss_one (ds_ret de_bl)) dss_nil))))
    (dss_cons (ds_set 11 ck (de_op op_addA os_add (de_un un_negA os_neg de_int) (de_call ck (h__law_roll t) (da_cons (de_var 2) (da_cons de_int da_nil)))))
    (dss_cons (ds_if (dt_w (dw_or (dt_not (dt_val (de_call ck (h__law_more_right t l) (da_cons (de_var 3) (da_cons (de_tup (da_cons (de_var 11) (da_cons (de_op op_addA os_add (de_var 11) (de_call ck (h__law_roll t) (da_cons (de_var 2) (da_cons de_int da_nil)))) (da_cons de_str (da_cons de_int da_nil))))) da_nil))))) (dw_or1 (dt_not (dt_val (de_call ck (h__law_bad_right t l) (da_cons (de_var 5) (da_cons (de_var 3) da_nil)))))))) (dss_one (ds_ret de_bl)) dss_nil)
    (dss_cons (ds_set 12 ck (de_cmp (op_eqD ck.hu) os_eq (de_lc ck (di_range2 (de_un un_negA os_neg de_int) de_int t.z_range) (blkOk_by (own := [("worth", 8)]) (by kernel_rfl)) (fun _ _ _ _ _ => (dg_name 8 ck.nd)) (fun _ _ _ _ _ ck => (dc_one (dt_cmp (op_neD ck.hu) os_ne (de_call ck (h__law_changed t) (da_cons (de_var 3) (da_cons (de_var 8) da_nil))) (de_call ck (h__law_changed t) (da_cons (de_var 4) (da_cons (de_var 8) da_nil)))))) (fun _ _ _ _ _ ck => (de_var 8))) (de_lst da_nil)))
    (dss_cons (ds_if (dt_w (dw_or (dt_cmp (op_neD ck.hu) os_ne (de_meth ck t.k_Change (h_Change__like t) (de_var 5) (da_cons (de_var 6) da_nil)) (de_var 12)) (dw_or (dt_cmp (op_neD ck.hu) os_ne (de_eqM ck t.k_Change (h_Change____eq__ t) (de_var 5) (de_var 6)) (de_cmp (op_eqD ck.hu) os_eq (de_var 3) (de_var 4))) (dw_or1 (dt_not (dt_val (de_meth ck t.k_Change (h_Change__like t) (de_var 5) (da_cons (de_call ck (h__law_value t) (da_cons (de_var 3) da_nil)) da_nil)))))))) (dss_one (ds_ret de_bl)) dss_nil)
    (dss_one (ds_if (dt_w (dw_or (dt_eqM ck t.k_Change (h_Change____eq__ t) (de_var 5) (de_var 3)) (dw_or1 (dt_neM ck t.ops_Change.iso t.ops_Change.ne t.k_Change (h_Change____eq__ t) (de_call ck (h__law_value t) (da_cons (de_var 3) da_nil)) (de_var 5))))) (dss_one (ds_ret de_bl)) dss_nil))))))))))))))))
    (dss_cons (ds_set 13 ck (de_tup (da_cons de_int (da_cons de_int (da_cons de_str (da_cons de_int da_nil))))))
    (dss_cons (ds_set 14 ck (de_lstM (da_cons (de_try (k := 8) (h_err t) la ck (fun _ _ _ _ _ _ _ ck => (de_newS0 ck t.k_Change.at_ (h_Change____init__ t)))) (da_cons de_str (da_cons de_str (da_cons de_str da_nil))))))
    (dss_cons (ds_sub (de_try (k := 8) (h_err t) la ck (fun _ _ _ _ _ _ _ ck => (de_newS ck t.k_Change.at_ (h_Change____init__ t) (da_cons de_non da_nil)))) (de_var 14) de_int)
    (dss_cons (ds_sub (de_try (k := 8) (h_err t) la ck (fun _ _ _ _ _ _ _ ck => (de_newS ck t.k_Change.at_ (h_Change____init__ t) (da_cons (de_var 13) (da_cons (de_var 13) da_nil))))) (de_var 14) de_int)
    (dss_cons (ds_sub (de_try (k := 8) (h_err t) la ck (fun _ _ _ _ _ _ _ ck => (de_newS ck t.k_Change.at_ (h_Change____init__ t) (da_cons (de_tup (da_cons de_int (da_cons de_int (da_cons de_str (da_cons de_int da_nil))))) (da_cons (de_tup (da_cons de_int (da_cons de_int (da_cons de_str (da_cons de_int da_nil))))) (da_cons (de_tup (da_cons de_int (da_cons de_int (da_cons de_str (da_cons de_int da_nil))))) (da_cons (de_tup (da_cons de_int (da_cons de_int (da_cons de_str (da_cons de_int da_nil))))) (da_cons (de_var 13) da_nil)))))))) (de_var 14) de_int)
    (dss_cons (ds_if (dt_cmp (op_neD ck.hu) os_ne (de_var 14) (de_op op_mulA os_mul (de_lst (da_cons de_str da_nil)) de_int)) (dss_one (ds_ret de_bl)) dss_nil)
    (dss_cons (ds_set 15 ck (de_newS ck t.k_Change.at_ (h_Change____init__ t) (da_cons (de_tup (da_cons (de_op op_pow os_pow de_int de_int) (da_cons de_non (da_cons de_str (da_cons de_int da_nil))))) da_nil)))
    (dss_cons (ds_if (dt_w (dw_or (dt_cmp (op_neD ck.hu) os_ne (de_try (k := 11) (h_err t) la ck (fun _ _ _ _ _ _ _ ck => (de_binM (op := .RShift) ck t.k_Change t.ops_Change.sf (h_Change____rshift__ t) t.n_Change____rrshift__ opTys_rshift (de_var 15) de_int))) de_str) (dw_or1 (dt_cmp (op_neD ck.hu) os_ne (de_prop ck t.k_Change (h_Change__pieces t) (de_binM (op := .RShift) ck t.k_Change t.ops_Change.sf (h_Change____rshift__ t) t.n_Change____rrshift__ opTys_rshift (de_var 15) (de_un un_negA os_neg de_int))) (de_tup (da_cons (de_tup (da_cons (de_op op_subA os_sub (de_op op_pow os_pow de_int de_int) de_int) (da_cons de_non (da_cons de_str (da_cons de_int da_nil))))) da_nil)))))) (dss_one (ds_ret de_bl)) dss_nil)
    (dss_one (ds_ret (de_and (de_cmp (op_eqD ck.hu) os_eq (de_cint t.m_Change__MOST) de_int) (de_and (de_cmp op_isB os_isB (de_boolM ck t.z_bool t.k_Change (h_Change____bool__ t) (de_newS ck t.k_Change.at_ (h_Change____init__ t) (da_cons (de_tup (da_cons de_int (da_cons de_int (da_cons de_str (da_cons de_int da_nil))))) da_nil))) de_bl) (de_and (de_inM ck t.k_Change (h_Change____contains__ t) (de_op op_pow os_pow de_int de_int) (de_var 15)) (de_one (de_notInM ck t.k_Change (h_Change____contains__ t) (de_un un_negA os_neg (de_op op_pow os_pow de_int de_int)) (de_var 15)))))))))))))))))
end
end Wlk

set_option linter.all false
set_option Elab.async false
set_option maxRecDepth 100000
set_option maxHeartbeats 0
/-! The head (printed by gen.py). -/
namespace Hd
open PySem PySem.Spec PyProof.Rows L2 Mi L3 Mir Wlk

theorem clsL_own : ∀ x ∈ clsL, x ∈ ownCls := by decide +kernel
section
variable {K : PySem.W.Frag} {mg : Str → Option Value} {h : Heap} {w : World}
theorem txt (X : K.In h) (G : h.Ns mainGlobals mg) (cq : SaysQ fa fn [] [("_law_more_right", none), ("_law_bad_right", none), ("law", none)] ex pr qr w h K) (c : He.SaysD fa fn K) (cp : SaysP fa fn [] [("_law_more_right", none), ("_law_bad_right", none), ("law", none)] ex pr w h K) (ha : apartB K lamd = true) (m1 : clsL.all (rowB K) = true) (mp : pr.all (propB K) = true) (mo_Change : opsB K (He.ga K "Change") = true) (mf_Change____call__ : fnAtB K (He.ga K "Change") "__call__" = true) (mf_Change____getitem__ : fnAtB K (He.ga K "Change") "__getitem__" = true) (mm_Change__MOST : cintB K (He.ga K "Change") "MOST" (4) = true) : Txt PySem.Challenge.rw_metagain_k14_changes_as_values.prog K mg := by
  have gx : ∀ y ∈ ownCls, mg y = some (.ref (He.ga K y)) := fun y hy => by
    simp only [ownCls, List.mem_cons, List.not_mem_nil, or_false] at hy
    rcases hy with rfl | rfl | rfl | rfl | rfl | rfl | rfl | rfl | rfl | rfl | rfl | rfl | rfl | rfl | rfl | rfl
    · exact (He.glo_ok X G (c.fact 48 (f := .glo "InvalidChange") rfl))
    · exact (He.glo_ok X G (c.fact 49 (f := .glo "InvalidPiece") rfl))
    · exact (He.glo_ok X G (c.fact 50 (f := .glo "InvalidStatement") rfl))
    · exact (He.glo_ok X G (c.fact 51 (f := .glo "InvalidWorth") rfl))
    · exact (He.glo_ok X G (c.fact 52 (f := .glo "InvalidNumber") rfl))
    · exact (He.glo_ok X G (c.fact 53 (f := .glo "InvalidOrder") rfl))
    · exact (He.glo_ok X G (c.fact 54 (f := .glo "InvalidPrices") rfl))
    · exact (He.glo_ok X G (c.fact 55 (f := .glo "InvalidPairs") rfl))
    · exact (He.glo_ok X G (c.fact 56 (f := .glo "InvalidText") rfl))
    · exact (He.glo_ok X G (c.fact 57 (f := .glo "InvalidIndex") rfl))
    · exact (He.glo_ok X G (c.fact 58 (f := .glo "InvalidRow") rfl))
    · exact (He.glo_ok X G (c.fact 59 (f := .glo "InvalidTable") rfl))
    · exact (He.glo_ok X G (c.fact 60 (f := .glo "Unlike") rfl))
    · exact (He.glo_ok X G (c.fact 61 (f := .glo "Done") rfl))
    · exact (He.glo_ok X G (c.fact 62 (f := .glo "NothingToUndo") rfl))
    · exact (He.glo_ok X G (c.fact 63 (f := .glo "TooMany") rfl))
  exact {
    d_is_whole := by
      obtain ⟨fd, F⟩ := c.def_ 0 (d := D_is_whole) rfl
      exact ⟨⟨_, fd, _, _, F, (He.glo_ok X G (c.fact 0 (f := .glo "is_whole") rfl)), F.bindsN fun _ _ _ _ _ _ us hl => match us, hl with | [_, _, _], _ => rfl⟩⟩
    d_is_end := by
      obtain ⟨fd, F⟩ := c.def_ 1 (d := D_is_end) rfl
      exact ⟨⟨_, fd, _, _, F, (He.glo_ok X G (c.fact 1 (f := .glo "is_end") rfl)), F.bindsN fun _ _ _ _ _ _ us hl => match us, hl with | [_], _ => rfl⟩⟩
    d_are_ends := by
      obtain ⟨fd, F⟩ := c.def_ 2 (d := D_are_ends) rfl
      exact ⟨⟨_, fd, _, _, F, (He.glo_ok X G (c.fact 2 (f := .glo "are_ends") rfl)), F.bindsN fun _ _ _ _ _ _ us hl => match us, hl with | [_, _], _ => rfl⟩⟩
    d_is_piece := by
      obtain ⟨fd, F⟩ := c.def_ 3 (d := D_is_piece) rfl
      exact ⟨⟨_, fd, _, _, F, (He.glo_ok X G (c.fact 3 (f := .glo "is_piece") rfl)), F.bindsN fun _ _ _ _ _ _ us hl => match us, hl with | [_], _ => rfl⟩⟩
    d_are_apart := by
      obtain ⟨fd, F⟩ := c.def_ 4 (d := D_are_apart) rfl
      exact ⟨⟨_, fd, _, _, F, (He.glo_ok X G (c.fact 4 (f := .glo "are_apart") rfl)), F.bindsN fun _ _ _ _ _ _ us hl => match us, hl with | [_, _], _ => rfl⟩⟩
    d_fits_change := by
      obtain ⟨fd, F⟩ := c.def_ 5 (d := D_fits_change) rfl
      exact ⟨⟨_, fd, _, _, F, (He.glo_ok X G (c.fact 5 (f := .glo "fits_change") rfl)), F.bindsN fun _ _ _ _ _ _ us hl => match us, hl with | [_], _ => rfl⟩⟩
    d_need_change := by
      obtain ⟨fd, F⟩ := c.def_ 6 (d := D_need_change) rfl
      exact ⟨⟨_, fd, _, _, F, (He.glo_ok X G (c.fact 6 (f := .glo "need_change") rfl)), F.bindsN fun _ _ _ _ _ _ us hl => match us, hl with | [_], _ => rfl⟩⟩
    d_need_worth := by
      obtain ⟨fd, F⟩ := c.def_ 7 (d := D_need_worth) rfl
      obtain ⟨ds, v, b⟩ := F.binds1 (ps := ["value", "low"]) 2 1 (by intro z; cases z) rfl (fun _ _ _ _ _ _ _ us its hl hi => match us, its, hl, hi with | [_, _], [_], _, _ => ⟨_, rfl, rfl⟩)
      cases v
      exact ⟨⟨_, fd, _, _, F, (He.glo_ok X G (c.fact 7 (f := .glo "need_worth") rfl)), b⟩⟩
    e_need_worth := by
      obtain ⟨fd, F⟩ := c.def_ 7 (d := D_need_worth) rfl
      obtain ⟨ds, v, b⟩ := F.binds1 (ps := ["value", "low"]) 1 0 (by intro z; cases z) rfl (fun _ _ _ _ _ _ _ us its hl hi => match us, its, hl, hi with | [_], [_], _, _ => ⟨_, rfl, rfl⟩)
      exact ⟨⟨_, fd, _, _, ds, F, (He.glo_ok X G (c.fact 7 (f := .glo "need_worth") rfl)), b, v, fun _ _ => (.cons (.int _) .nil)⟩⟩
    d_floor_of := by
      obtain ⟨fd, F⟩ := c.def_ 8 (d := D_floor_of) rfl
      exact ⟨⟨_, fd, _, _, F, (He.glo_ok X G (c.fact 8 (f := .glo "floor_of") rfl)), F.bindsN fun _ _ _ _ _ _ us hl => match us, hl with | [_], _ => rfl⟩⟩
    d_top_of := by
      obtain ⟨fd, F⟩ := c.def_ 9 (d := D_top_of) rfl
      exact ⟨⟨_, fd, _, _, F, (He.glo_ok X G (c.fact 9 (f := .glo "top_of") rfl)), F.bindsN fun _ _ _ _ _ _ us hl => match us, hl with | [_], _ => rfl⟩⟩
    d_has := by
      obtain ⟨fd, F⟩ := c.def_ 10 (d := D_has) rfl
      exact ⟨⟨_, fd, _, _, F, (He.glo_ok X G (c.fact 10 (f := .glo "has") rfl)), F.bindsN fun _ _ _ _ _ _ us hl => match us, hl with | [_, _], _ => rfl⟩⟩
    d_piece_of := by
      obtain ⟨fd, F⟩ := c.def_ 11 (d := D_piece_of) rfl
      exact ⟨⟨_, fd, _, _, F, (He.glo_ok X G (c.fact 11 (f := .glo "piece_of") rfl)), F.bindsN fun _ _ _ _ _ _ us hl => match us, hl with | [_, _], _ => rfl⟩⟩
    d_made := by
      obtain ⟨fd, F⟩ := c.def_ 12 (d := D_made) rfl
      exact ⟨⟨_, fd, _, _, F, (He.glo_ok X G (c.fact 12 (f := .glo "made") rfl)), F.bindsN fun _ _ _ _ _ _ us hl => match us, hl with | [_, _], _ => rfl⟩⟩
    d_changed_by := by
      obtain ⟨fd, F⟩ := c.def_ 13 (d := D_changed_by) rfl
      exact ⟨⟨_, fd, _, _, F, (He.glo_ok X G (c.fact 13 (f := .glo "changed_by") rfl)), F.bindsN fun _ _ _ _ _ _ us hl => match us, hl with | [_, _], _ => rfl⟩⟩
    d_parts_of := by
      obtain ⟨fd, F⟩ := c.def_ 14 (d := D_parts_of) rfl
      exact ⟨⟨_, fd, _, _, F, (He.glo_ok X G (c.fact 14 (f := .glo "parts_of") rfl)), F.bindsN fun _ _ _ _ _ _ us hl => match us, hl with | [_, _, _], _ => rfl⟩⟩
    d_unlike_in := by
      obtain ⟨fd, F⟩ := c.def_ 15 (d := D_unlike_in) rfl
      exact ⟨⟨_, fd, _, _, F, (He.glo_ok X G (c.fact 15 (f := .glo "unlike_in") rfl)), F.bindsN fun _ _ _ _ _ _ us hl => match us, hl with | [_, _, _, _], _ => rfl⟩⟩
    d_first_unlike := by
      obtain ⟨fd, F⟩ := c.def_ 16 (d := D_first_unlike) rfl
      exact ⟨⟨_, fd, _, _, F, (He.glo_ok X G (c.fact 16 (f := .glo "first_unlike") rfl)), F.bindsN fun _ _ _ _ _ _ us hl => match us, hl with | [_, _, _], _ => rfl⟩⟩
    d_turned_end := by
      obtain ⟨fd, F⟩ := c.def_ 17 (d := D_turned_end) rfl
      exact ⟨⟨_, fd, _, _, F, (He.glo_ok X G (c.fact 17 (f := .glo "turned_end") rfl)), F.bindsN fun _ _ _ _ _ _ us hl => match us, hl with | [_], _ => rfl⟩⟩
    d_turned := by
      obtain ⟨fd, F⟩ := c.def_ 18 (d := D_turned) rfl
      exact ⟨⟨_, fd, _, _, F, (He.glo_ok X G (c.fact 18 (f := .glo "turned") rfl)), F.bindsN fun _ _ _ _ _ _ us hl => match us, hl with | [_], _ => rfl⟩⟩
    d_again := by
      obtain ⟨fd, F⟩ := c.def_ 19 (d := D_again) rfl
      exact ⟨⟨_, fd, _, _, F, (He.glo_ok X G (c.fact 19 (f := .glo "again") rfl)), F.bindsN fun _ _ _ _ _ _ us hl => match us, hl with | [_, _, _], _ => rfl⟩⟩
    d_met_part := by
      obtain ⟨fd, F⟩ := c.def_ 20 (d := D_met_part) rfl
      exact ⟨⟨_, fd, _, _, F, (He.glo_ok X G (c.fact 20 (f := .glo "met_part") rfl)), F.bindsN fun _ _ _ _ _ _ us hl => match us, hl with | [_, _, _], _ => rfl⟩⟩
    d_twice_added := by
      obtain ⟨fd, F⟩ := c.def_ 21 (d := D_twice_added) rfl
      exact ⟨⟨_, fd, _, _, F, (He.glo_ok X G (c.fact 21 (f := .glo "twice_added") rfl)), F.bindsN fun _ _ _ _ _ _ us hl => match us, hl with | [_, _, _, _, _], _ => rfl⟩⟩
    d_has_piece := by
      obtain ⟨fd, F⟩ := c.def_ 22 (d := D_has_piece) rfl
      exact ⟨⟨_, fd, _, _, F, (He.glo_ok X G (c.fact 22 (f := .glo "has_piece") rfl)), F.bindsN fun _ _ _ _ _ _ us hl => match us, hl with | [_, _], _ => rfl⟩⟩
    d_twice_of := by
      obtain ⟨fd, F⟩ := c.def_ 23 (d := D_twice_of) rfl
      exact ⟨⟨_, fd, _, _, F, (He.glo_ok X G (c.fact 23 (f := .glo "twice_of") rfl)), F.bindsN fun _ _ _ _ _ _ us hl => match us, hl with | [_, _], _ => rfl⟩⟩
    d_moved_end := by
      obtain ⟨fd, F⟩ := c.def_ 24 (d := D_moved_end) rfl
      exact ⟨⟨_, fd, _, _, F, (He.glo_ok X G (c.fact 24 (f := .glo "moved_end") rfl)), F.bindsN fun _ _ _ _ _ _ us hl => match us, hl with | [_, _], _ => rfl⟩⟩
    d_moved_piece := by
      obtain ⟨fd, F⟩ := c.def_ 25 (d := D_moved_piece) rfl
      exact ⟨⟨_, fd, _, _, F, (He.glo_ok X G (c.fact 25 (f := .glo "moved_piece") rfl)), F.bindsN fun _ _ _ _ _ _ us hl => match us, hl with | [_, _], _ => rfl⟩⟩
    d_with_piece := by
      obtain ⟨fd, F⟩ := c.def_ 26 (d := D_with_piece) rfl
      exact ⟨⟨_, fd, _, _, F, (He.glo_ok X G (c.fact 26 (f := .glo "with_piece") rfl)), F.bindsN fun _ _ _ _ _ _ us hl => match us, hl with | [_, _], _ => rfl⟩⟩
    d_need_index := by
      obtain ⟨fd, F⟩ := c.def_ 27 (d := D_need_index) rfl
      exact ⟨⟨_, fd, _, _, F, (He.glo_ok X G (c.fact 27 (f := .glo "need_index") rfl)), F.bindsN fun _ _ _ _ _ _ us hl => match us, hl with | [_, _], _ => rfl⟩⟩
    d_Change____init__ := by
      rw [clsAt_eq (He.glo_ok X G (c.fact 65 (f := .glo "Change") rfl))]
      obtain ⟨fd, F⟩ := c.def_ 28 (d := D_Change____init__) rfl
      exact init_factS (c.fact 71 (f := .mkr "Change") rfl) F (fun _ _ _ _ _ _ a => rfl) (fun _ _ _ _ _ _ a r rs => rfl)
    d_value_of := by
      obtain ⟨fd, F⟩ := c.def_ 29 (d := D_value_of) rfl
      exact ⟨⟨_, fd, _, _, F, (He.glo_ok X G (c.fact 28 (f := .glo "value_of") rfl)), F.bindsN fun _ _ _ _ _ _ us hl => match us, hl with | [_], _ => rfl⟩⟩
    d_Change__pieces := by
      rw [clsAt_eq (He.glo_ok X G (c.fact 65 (f := .glo "Change") rfl))]
      exact prop_fact (List.all_eq_true.mp mp P_Change__pieces (List.mem_of_getElem? (show pr[0]? = some P_Change__pieces from rfl))) (cp.get 0 (d := P_Change__pieces) rfl) rfl rfl rfl fun fd F => F.bindsN fun _ _ _ _ _ _ us hl => match us, hl with | [_], _ => rfl
    d_Change____rshift__ := by
      rw [clsAt_eq (He.glo_ok X G (c.fact 65 (f := .glo "Change") rfl))]
      obtain ⟨fd, F⟩ := c.def_ 30 (d := D_Change____rshift__) rfl
      exact meth_fact (c.fact 72 (f := .meth "Change" "__rshift__") rfl) F (F.bindsN fun _ _ _ _ _ _ us hl => match us, hl with | [_, _], _ => rfl)
    d_Change____invert__ := by
      rw [clsAt_eq (He.glo_ok X G (c.fact 65 (f := .glo "Change") rfl))]
      obtain ⟨fd, F⟩ := c.def_ 31 (d := D_Change____invert__) rfl
      exact meth_fact (c.fact 73 (f := .meth "Change" "__invert__") rfl) F (F.bindsN fun _ _ _ _ _ _ us hl => match us, hl with | [_], _ => rfl)
    d_Change____or__ := by
      rw [clsAt_eq (He.glo_ok X G (c.fact 65 (f := .glo "Change") rfl))]
      obtain ⟨fd, F⟩ := c.def_ 32 (d := D_Change____or__) rfl
      exact meth_fact (c.fact 74 (f := .meth "Change" "__or__") rfl) F (F.bindsN fun _ _ _ _ _ _ us hl => match us, hl with | [_, _], _ => rfl)
    d_Change____ior__ := by
      rw [clsAt_eq (He.glo_ok X G (c.fact 65 (f := .glo "Change") rfl))]
      obtain ⟨fd, F⟩ := c.def_ 33 (d := D_Change____ior__) rfl
      exact meth_fact (c.fact 75 (f := .meth "Change" "__ior__") rfl) F (F.bindsN fun _ _ _ _ _ _ us hl => match us, hl with | [_, _], _ => rfl)
    d_Change____sub__ := by
      rw [clsAt_eq (He.glo_ok X G (c.fact 65 (f := .glo "Change") rfl))]
      obtain ⟨fd, F⟩ := c.def_ 34 (d := D_Change____sub__) rfl
      exact meth_fact (c.fact 76 (f := .meth "Change" "__sub__") rfl) F (F.bindsN fun _ _ _ _ _ _ us hl => match us, hl with | [_, _], _ => rfl)
    d_Change____call__ := by
      rw [clsAt_eq (He.glo_ok X G (c.fact 65 (f := .glo "Change") rfl))]
      obtain ⟨fd, F⟩ := c.def_ 35 (d := D_Change____call__) rfl
      exact meth_fact (c.fact 77 (f := .meth "Change" "__call__") rfl) F (F.bindsN fun _ _ _ _ _ _ us hl => match us, hl with | [_, _], _ => rfl)
    d_Change____getitem__ := by
      rw [clsAt_eq (He.glo_ok X G (c.fact 65 (f := .glo "Change") rfl))]
      obtain ⟨fd, F⟩ := c.def_ 36 (d := D_Change____getitem__) rfl
      exact meth_fact (c.fact 78 (f := .meth "Change" "__getitem__") rfl) F (F.bindsN fun _ _ _ _ _ _ us hl => match us, hl with | [_, _], _ => rfl)
    d_Change____contains__ := by
      rw [clsAt_eq (He.glo_ok X G (c.fact 65 (f := .glo "Change") rfl))]
      obtain ⟨fd, F⟩ := c.def_ 37 (d := D_Change____contains__) rfl
      exact meth_fact (c.fact 79 (f := .meth "Change" "__contains__") rfl) F (F.bindsN fun _ _ _ _ _ _ us hl => match us, hl with | [_, _], _ => rfl)
    d_Change____len__ := by
      rw [clsAt_eq (He.glo_ok X G (c.fact 65 (f := .glo "Change") rfl))]
      obtain ⟨fd, F⟩ := c.def_ 38 (d := D_Change____len__) rfl
      exact meth_fact (c.fact 80 (f := .meth "Change" "__len__") rfl) F (F.bindsN fun _ _ _ _ _ _ us hl => match us, hl with | [_], _ => rfl)
    d_first_kept := by
      obtain ⟨fd, F⟩ := c.def_ 39 (d := D_first_kept) rfl
      exact ⟨⟨_, fd, _, _, F, (He.glo_ok X G (c.fact 29 (f := .glo "first_kept") rfl)), F.bindsN fun _ _ _ _ _ _ us hl => match us, hl with | [_], _ => rfl⟩⟩
    d_Change____bool__ := by
      rw [clsAt_eq (He.glo_ok X G (c.fact 65 (f := .glo "Change") rfl))]
      obtain ⟨fd, F⟩ := c.def_ 40 (d := D_Change____bool__) rfl
      exact meth_fact (c.fact 81 (f := .meth "Change" "__bool__") rfl) F (F.bindsN fun _ _ _ _ _ _ us hl => match us, hl with | [_], _ => rfl)
    d_Change____eq__ := by
      rw [clsAt_eq (He.glo_ok X G (c.fact 65 (f := .glo "Change") rfl))]
      obtain ⟨fd, F⟩ := c.def_ 41 (d := D_Change____eq__) rfl
      exact meth_fact (c.fact 82 (f := .meth "Change" "__eq__") rfl) F (F.bindsN fun _ _ _ _ _ _ us hl => match us, hl with | [_, _], _ => rfl)
    d_Change__like := by
      rw [clsAt_eq (He.glo_ok X G (c.fact 65 (f := .glo "Change") rfl))]
      obtain ⟨fd, F⟩ := c.def_ 42 (d := D_Change__like) rfl
      exact meth_fact (c.fact 83 (f := .meth "Change" "like") rfl) F (F.bindsN fun _ _ _ _ _ _ us hl => match us, hl with | [_, _], _ => rfl)
    d__law_drum := by
      obtain ⟨fd, F⟩ := c.def_ 43 (d := D__law_drum) rfl
      exact ⟨⟨_, fd, _, _, F, (He.glo_ok X G (c.fact 30 (f := .glo "_law_drum") rfl)), F.bindsN fun _ _ _ _ _ _ us hl => match us, hl with | [_, _], _ => rfl⟩⟩
    d__law_roll := by
      obtain ⟨fd, F⟩ := c.def_ 44 (d := D__law_roll) rfl
      exact ⟨⟨_, fd, _, _, F, (He.glo_ok X G (c.fact 31 (f := .glo "_law_roll") rfl)), F.bindsN fun _ _ _ _ _ _ us hl => match us, hl with | [_, _], _ => rfl⟩⟩
    d__law_some := by
      obtain ⟨fd, F⟩ := c.def_ 45 (d := D__law_some) rfl
      exact ⟨⟨_, fd, _, _, F, (He.glo_ok X G (c.fact 32 (f := .glo "_law_some") rfl)), F.bindsN fun _ _ _ _ _ _ us hl => match us, hl with | [_, _], _ => rfl⟩⟩
    d__law_change := by
      obtain ⟨fd, F⟩ := c.def_ 46 (d := D__law_change) rfl
      exact ⟨⟨_, fd, _, _, F, (He.glo_ok X G (c.fact 33 (f := .glo "_law_change") rfl)), F.bindsN fun _ _ _ _ _ _ us hl => match us, hl with | [_, _], _ => rfl⟩⟩
    d__law_has := by
      obtain ⟨fd, F⟩ := c.def_ 47 (d := D__law_has) rfl
      exact ⟨⟨_, fd, _, _, F, (He.glo_ok X G (c.fact 34 (f := .glo "_law_has") rfl)), F.bindsN fun _ _ _ _ _ _ us hl => match us, hl with | [_, _, _], _ => rfl⟩⟩
    d__law_piece := by
      obtain ⟨fd, F⟩ := c.def_ 48 (d := D__law_piece) rfl
      exact ⟨⟨_, fd, _, _, F, (He.glo_ok X G (c.fact 35 (f := .glo "_law_piece") rfl)), F.bindsN fun _ _ _ _ _ _ us hl => match us, hl with | [_, _], _ => rfl⟩⟩
    d__law_changed := by
      obtain ⟨fd, F⟩ := c.def_ 49 (d := D__law_changed) rfl
      exact ⟨⟨_, fd, _, _, F, (He.glo_ok X G (c.fact 36 (f := .glo "_law_changed") rfl)), F.bindsN fun _ _ _ _ _ _ us hl => match us, hl with | [_, _], _ => rfl⟩⟩
    d__law_names := by
      obtain ⟨fd, F⟩ := c.def_ 50 (d := D__law_names) rfl
      exact ⟨⟨_, fd, _, _, F, (He.glo_ok X G (c.fact 37 (f := .glo "_law_names") rfl)), F.bindsN fun _ _ _ _ _ _ us hl => match us, hl with | [_], _ => rfl⟩⟩
    d__law_error := by
      obtain ⟨fd, F⟩ := c.def_ 51 (d := D__law_error) rfl
      exact ⟨⟨_, fd, _, _, F, (He.glo_ok X G (c.fact 38 (f := .glo "_law_error") rfl)), F.bindsN fun _ _ _ _ _ _ us hl => match us, hl with | [_], _ => rfl⟩⟩
    d__law_value := by
      obtain ⟨fd, F⟩ := c.def_ 52 (d := D__law_value) rfl
      exact ⟨⟨_, fd, _, _, F, (He.glo_ok X G (c.fact 39 (f := .glo "_law_value") rfl)), F.bindsN fun _ _ _ _ _ _ us hl => match us, hl with | [_], _ => rfl⟩⟩
    d__law_moved := by
      obtain ⟨fd, F⟩ := c.def_ 53 (d := D__law_moved) rfl
      exact ⟨⟨_, fd, _, _, F, (He.glo_ok X G (c.fact 40 (f := .glo "_law_moved") rfl)), F.bindsN fun _ _ _ _ _ _ us hl => match us, hl with | [_, _], _ => rfl⟩⟩
    d__law_turned := by
      obtain ⟨fd, F⟩ := c.def_ 54 (d := D__law_turned) rfl
      exact ⟨⟨_, fd, _, _, F, (He.glo_ok X G (c.fact 41 (f := .glo "_law_turned") rfl)), F.bindsN fun _ _ _ _ _ _ us hl => match us, hl with | [_], _ => rfl⟩⟩
    d__law_settles := by
      obtain ⟨fd, F⟩ := c.def_ 55 (d := D__law_settles) rfl
      exact ⟨⟨_, fd, _, _, F, (He.glo_ok X G (c.fact 42 (f := .glo "_law_settles") rfl)), F.bindsN fun _ _ _ _ _ _ us hl => match us, hl with | [_], _ => rfl⟩⟩
    d__law_outcome := by
      obtain ⟨fd, F⟩ := c.def_ 56 (d := D__law_outcome) rfl
      exact ⟨⟨_, fd, _, _, F, (He.glo_ok X G (c.fact 43 (f := .glo "_law_outcome") rfl)), F.bindsN fun _ _ _ _ _ _ us hl => match us, hl with | [_], _ => rfl⟩⟩
    d__law_taken := by
      obtain ⟨fd, F⟩ := c.def_ 57 (d := D__law_taken) rfl
      exact ⟨⟨_, fd, _, _, F, (He.glo_ok X G (c.fact 44 (f := .glo "_law_taken") rfl)), F.bindsN fun _ _ _ _ _ _ us hl => match us, hl with | [_, _], _ => rfl⟩⟩
    k_Change := by
      rw [clsAt_eq (He.glo_ok X G (c.fact 65 (f := .glo "Change") rfl))]
      exact own_cls (c.fact 66 (f := .cls "Change") rfl) (He.glo_ok X G (c.fact 65 (f := .glo "Change") rfl))
    ops_Change := by
      rw [clsAt_eq (He.glo_ok X G (c.fact 65 (f := .glo "Change") rfl))]
      exact opsB_ok mo_Change
    f_Change____call__ := by
      rw [clsAt_eq (He.glo_ok X G (c.fact 65 (f := .glo "Change") rfl))]
      exact fnAt_ok mf_Change____call__
    f_Change____getitem__ := by
      rw [clsAt_eq (He.glo_ok X G (c.fact 65 (f := .glo "Change") rfl))]
      exact fnAt_ok mf_Change____getitem__
    m_Change__MOST := cintB_ok mm_Change__MOST (He.glo_ok X G (c.fact 65 (f := .glo "Change") rfl))
    n_Change____ror__ := by
      rw [clsAt_eq (He.glo_ok X G (c.fact 65 (f := .glo "Change") rfl))]
      exact no_attr (c.fact 67 (f := .noat "Change" "__ror__") rfl)
    n_Change____rrshift__ := by
      rw [clsAt_eq (He.glo_ok X G (c.fact 65 (f := .glo "Change") rfl))]
      exact no_attr (c.fact 68 (f := .noat "Change" "__rrshift__") rfl)
    n_Change____rsub__ := by
      rw [clsAt_eq (He.glo_ok X G (c.fact 65 (f := .glo "Change") rfl))]
      exact no_attr (c.fact 69 (f := .noat "Change" "__rsub__") rfl)
    n_Change__kept := by
      rw [clsAt_eq (He.glo_ok X G (c.fact 65 (f := .glo "Change") rfl))]
      exact no_attr (c.fact 70 (f := .noat "Change" "kept") rfl)
    o_InvalidChange := ⟨_, (He.glo_ok X G (c.fact 48 (f := .glo "InvalidChange") rfl))⟩
    o_InvalidPiece := ⟨_, (He.glo_ok X G (c.fact 49 (f := .glo "InvalidPiece") rfl))⟩
    o_InvalidStatement := ⟨_, (He.glo_ok X G (c.fact 50 (f := .glo "InvalidStatement") rfl))⟩
    o_InvalidWorth := ⟨_, (He.glo_ok X G (c.fact 51 (f := .glo "InvalidWorth") rfl))⟩
    o_InvalidNumber := ⟨_, (He.glo_ok X G (c.fact 52 (f := .glo "InvalidNumber") rfl))⟩
    o_InvalidOrder := ⟨_, (He.glo_ok X G (c.fact 53 (f := .glo "InvalidOrder") rfl))⟩
    o_InvalidPrices := ⟨_, (He.glo_ok X G (c.fact 54 (f := .glo "InvalidPrices") rfl))⟩
    o_InvalidPairs := ⟨_, (He.glo_ok X G (c.fact 55 (f := .glo "InvalidPairs") rfl))⟩
    o_InvalidText := ⟨_, (He.glo_ok X G (c.fact 56 (f := .glo "InvalidText") rfl))⟩
    o_InvalidIndex := ⟨_, (He.glo_ok X G (c.fact 57 (f := .glo "InvalidIndex") rfl))⟩
    o_InvalidRow := ⟨_, (He.glo_ok X G (c.fact 58 (f := .glo "InvalidRow") rfl))⟩
    o_InvalidTable := ⟨_, (He.glo_ok X G (c.fact 59 (f := .glo "InvalidTable") rfl))⟩
    o_Unlike := ⟨_, (He.glo_ok X G (c.fact 60 (f := .glo "Unlike") rfl))⟩
    o_Done := ⟨_, (He.glo_ok X G (c.fact 61 (f := .glo "Done") rfl))⟩
    o_NothingToUndo := ⟨_, (He.glo_ok X G (c.fact 62 (f := .glo "NothingToUndo") rfl))⟩
    o_TooMany := ⟨_, (He.glo_ok X G (c.fact 63 (f := .glo "TooMany") rfl))⟩
    o_WalkError := ⟨_, (He.glo_ok X G (c.fact 64 (f := .glo "WalkError") rfl))⟩
    r_cls := fun x hx => rowB_ok (List.all_eq_true.mp m1 x hx) (gx x (clsL_own x hx)) (He.glo_ok X G (c.fact 64 (f := .glo "WalkError") rfl)) gx
    z_ValueError := He.free_ok X G (c.fact 84 (f := .free "ValueError") rfl)
    z_all := He.free_ok X G (c.fact 85 (f := .free "all") rfl)
    z_bool := He.free_ok X G (c.fact 86 (f := .free "bool") rfl)
    z_int := He.free_ok X G (c.fact 87 (f := .free "int") rfl)
    z_isinstance := He.free_ok X G (c.fact 88 (f := .free "isinstance") rfl)
    z_len := He.free_ok X G (c.fact 89 (f := .free "len") rfl)
    z_list := He.free_ok X G (c.fact 90 (f := .free "list") rfl)
    z_max := He.free_ok X G (c.fact 91 (f := .free "max") rfl)
    z_min := He.free_ok X G (c.fact 92 (f := .free "min") rfl)
    z_range := He.free_ok X G (c.fact 93 (f := .free "range") rfl)
    z_str := He.free_ok X G (c.fact 94 (f := .free "str") rfl)
    z_tuple := He.free_ok X G (c.fact 95 (f := .free "tuple") rfl)
    z_zip := He.free_ok X G (c.fact 96 (f := .free "zip") rfl)
    c_FAR := He.int_ok X G (c.fact 97 (f := .int "FAR" (1000000000000000000000000000000)) rfl)
    c_BEYOND := He.int_ok X G (c.fact 98 (f := .int "BEYOND" (100000000000000000000000000000000)) rfl)
    x_InvalidChange := ownEx_ok (c.fact 99 (f := .exc "InvalidChange") rfl) (He.glo_ok X G (c.fact 48 (f := .glo "InvalidChange") rfl))
    x_InvalidPiece := ownEx_ok (c.fact 100 (f := .exc "InvalidPiece") rfl) (He.glo_ok X G (c.fact 49 (f := .glo "InvalidPiece") rfl))
    x_InvalidWorth := ownEx_ok (c.fact 101 (f := .exc "InvalidWorth") rfl) (He.glo_ok X G (c.fact 51 (f := .glo "InvalidWorth") rfl))
    x_InvalidIndex := ownEx_ok (c.fact 102 (f := .exc "InvalidIndex") rfl) (He.glo_ok X G (c.fact 57 (f := .glo "InvalidIndex") rfl))
    x_Unlike := ownEx_ok (c.fact 103 (f := .exc "Unlike") rfl) (He.glo_ok X G (c.fact 60 (f := .glo "Unlike") rfl)) }
theorem at_law {mg : Str → Option Value} {fa0 : Addr} (X : K.In h) (G : h.Ns mainGlobals mg) (cq : SaysQ fa fn [] [("_law_more_right", none), ("_law_bad_right", none), ("law", none)] ex pr qr w h K) (hfa : mg "law" = some (.ref fa0))
    (pure : ∀ ns : List Int, ns.length ≤ 63 → (∀ z ∈ ns, Builtin.Int.intBits z ≤ 1048576) → g_law [.d (.list (ns.map .int))] [] = .ok (.d (.bool true)) []) : LamX.LawAtS PySem.Challenge.rw_metagain_k14_changes_as_values w K (L2N.CX PySem.Challenge.rw_metagain_k14_changes_as_values.prog w) 15 63 "script" mg fa0 h := by
  have c := cq.x.x
  have cd := c.t.d
  have hm := c.more
  unfold ex at hm
  simp only [Bool.and_eq_true] at hm
  obtain ⟨hn, ha, m1, mp, mo_Change, mf_Change____call__, mf_Change____getitem__, mm_Change__MOST⟩ := hm
  obtain rfl : fa0 = He.ga K "law" := by
    have z := hfa.symm.trans (He.glo_ok X G (cd.fact 47 (f := .glo "law") rfl))
    injection z with z
    injection z
  obtain ⟨fd, F⟩ := cd.def_ 60 (d := D_law) rfl
  have tt := txt X G cq cd cq.x ha m1 mp mo_Change mf_Change____call__ mf_Change____getitem__ mm_Change__MOST
  refine law_atL (ds := lamd) (st := topS 73) (kws := []) X G c (He.glo_ok X G (cd.fact 47 (f := .glo "law") rfl)) hfa F (fun _ _ _ _ _ _ us hl => match us, hl with | [_], _ => rfl) hn ha (fun base LC hb => ?_) pure
  exact ok_law tt (by exact {
    l_none := trivial
    l__law_more_right := by
      obtain ⟨fd, F⟩ := cd.def_ 58 (d := D__law_more_right) rfl
      exact ⟨_, fd, (LC "_law_more_right" (by decide)).defL (He.glo_ok X G (cd.fact 45 (f := .glo "_law_more_right") rfl)) F (F.bindsN fun _ _ _ _ _ _ us hl => match us, hl with | [_, _], _ => rfl)⟩
    l__law_bad_right := by
      obtain ⟨fd, F⟩ := cd.def_ 59 (d := D__law_bad_right) rfl
      exact ⟨_, fd, (LC "_law_bad_right" (by decide)).defL (He.glo_ok X G (cd.fact 46 (f := .glo "_law_bad_right") rfl)) F (F.bindsN fun _ _ _ _ _ _ us hl => match us, hl with | [_, _], _ => rfl)⟩ }) ((LC "law" (by decide)).defL (He.glo_ok X G (cd.fact 47 (f := .glo "law") rfl)) F hb)
end
end Hd

set_option linter.all false
set_option Elab.async false
set_option maxRecDepth 100000
/-! The mirror's words, run by simp. -/
namespace Mi
open PySem
section
variable (ρ : Env) (μ : Sto)
@[simp] theorem x_eVar (i : Nat) : eVar i ρ μ = (match ρ[i]? with | some (some w) => .ok w μ | _ => .no) := rfl
@[simp] theorem x_eC (d : D) : eC d ρ μ = .ok (.d d) μ := rfl
@[simp] theorem x_eInt (i : Int) : eInt i ρ μ = .ok (.d (.int i)) μ := rfl
@[simp] theorem x_eStr (i : Str) : eStr i ρ μ = .ok (.d (.str i)) μ := rfl
@[simp] theorem x_eBl (i : Bool) : eBl i ρ μ = .ok (.d (.bool i)) μ := rfl
@[simp] theorem x_eNon : eNon ρ μ = .ok (.d .none) μ := rfl
@[simp] theorem x_eYes : eYes ρ μ = .ok (.d (.bool true)) μ := rfl
@[simp] theorem x_eFn (x : Str) : eFn x ρ μ = .ok (.f x) μ := rfl
@[simp] theorem x_eOp (op : D → D → Option D) (f g : EF) : eOp op f g ρ μ = (f ρ μ).bind fun a μ1 => (g ρ μ1).bind fun b μ2 => ofO ((view μ2 a).bind fun x => (view μ2 b).bind fun y => (op x y).map W.d) μ2 := rfl
@[simp] theorem x_eUn (op : D → Option D) (f : EF) : eUn op f ρ μ = (f ρ μ).bind fun a μ1 => ofO ((view μ1 a).bind fun x => (op x).map W.d) μ1 := rfl
@[simp] theorem x_aNil : aNil ρ μ = .ok [] μ := rfl
@[simp] theorem x_aCons (f : EF) (r : AF) : aCons f r ρ μ = (f ρ μ).bind fun a μ1 => (r ρ μ1).bind fun as μ2 => .ok (a :: as) μ2 := rfl
@[simp] theorem x_eTup (a : AF) : eTup a ρ μ = (a ρ μ).bind fun ws μ1 => ofO ((asDs ws).map fun ds => W.d (.tuple ds)) μ1 := rfl
@[simp] theorem x_eLst (a : AF) : eLst a ρ μ = (a ρ μ).bind fun ws μ1 => ofO ((asDs ws).map fun ds => W.d (.list ds)) μ1 := rfl
@[simp] theorem x_eLstM (a : AF) : eLstM a ρ μ = (a ρ μ).bind fun ws μ1 => (match asDs ws with | some ds => .ok (.m μ1.length) (μ1 ++ [some (.lst ds)]) | none => .no) := rfl
@[simp] theorem x_eCall (g : GF) (a : AF) : eCall g a ρ μ = (a ρ μ).bind g := rfl
@[simp] theorem x_eBlt (h : List D → Option D) (a : AF) : eBlt h a ρ μ = (a ρ μ).bind fun ws μ1 => ofO ((views μ1 ws).bind fun ds => (h ds).map W.d) μ1 := rfl
@[simp] theorem x_eAnd (f g : EF) : eAnd f g ρ μ = (f ρ μ).test fun b μ1 => if b = true then g ρ μ1 else .ok (.d (.bool false)) μ1 := rfl
@[simp] theorem x_eOr (f g : EF) : eOr f g ρ μ = (f ρ μ).test fun b μ1 => if b = true then .ok (.d (.bool true)) μ1 else g ρ μ1 := rfl
@[simp] theorem x_eNot (f : EF) : eNot f ρ μ = (f ρ μ).test fun b μ1 => .ok (.d (.bool (!b))) μ1 := rfl
@[simp] theorem x_eIf (c f g : EF) : eIf c f g ρ μ = (c ρ μ).test fun b μ1 => if b = true then f ρ μ1 else g ρ μ1 := rfl
@[simp] theorem x_eChain (op op' : D → D → Option D) (f g h : EF) : eChain op op' f g h ρ μ = (f ρ μ).bind fun a μ1 => (g ρ μ1).bind fun b μ2 =>
  (ofO ((view μ2 a).bind fun x => (view μ2 b).bind fun y => (op x y).map W.d) μ2).test fun k μ3 => if k = true then
    (h ρ μ3).bind fun c μ4 => ofO ((view μ4 b).bind fun x => (view μ4 c).bind fun y => (op' x y).map W.d) μ4
  else .ok (.d (.bool false)) μ3 := rfl
@[simp] theorem x_eIsN (f : EF) : eIsN f ρ μ = (f ρ μ).bind fun a μ1 => .ok (.d (.bool (isNonW a))) μ1 := rfl
@[simp] theorem x_eNotN (f : EF) : eNotN f ρ μ = (f ρ μ).bind fun a μ1 => .ok (.d (.bool (!isNonW a))) μ1 := rfl
@[simp] theorem x_part0 : ePart none ρ μ = .ok none μ := rfl
@[simp] theorem x_part1 (f : EF) : ePart (some f) ρ μ = (f ρ μ).bind fun w μ1 => (match w with | .d (.int i) => .ok (some i) μ1 | _ => .no) := rfl
@[simp] theorem x_eSl (cut : D → Option Int → Option Int → Option D) (f : EF) (lo hi : Option EF) : eSl cut f lo hi ρ μ = (f ρ μ).bind fun a μ1 =>
  (ePart lo ρ μ1).bind fun l μ2 => (ePart hi ρ μ2).bind fun h μ3 => ofO ((view μ3 a).bind fun x => (cut x l h).map W.d) μ3 := rfl
@[simp] theorem x_eNotT (f : EF) : eNotT f ρ μ = (f ρ μ).bind fun a μ1 => ofO ((view μ1 a).bind fun d => ((truD d).map fun b => PyData.bool (!b)).map W.d) μ1 := rfl
@[simp] theorem x_eIsi (t : Ty) (f : EF) : eIsi t f ρ μ = (f ρ μ).bind fun a μ1 => ofO ((view μ1 a).bind fun d => some (W.d (.bool (isTy t d)))) μ1 := rfl
@[simp] theorem x_eM0 (op : Str → Option D) (f : EF) : eM0 op f ρ μ = (f ρ μ).bind fun w μ1 => (match w with | .d (.str a) => ofO ((op a).map W.d) μ1 | _ => .no) := rfl
@[simp] theorem x_eM1 (op : Str → D → Option D) (f g : EF) : eM1 op f g ρ μ = (f ρ μ).bind fun w μ1 => (match w with
  | .d (.str a) => (g ρ μ1).bind fun u μ2 => ofO ((view μ2 u).bind fun y => (op a y).map W.d) μ2
  | _ => .no) := rfl
@[simp] theorem x_eTry (nm : Exn → Option Str) (f : EF) : eTry nm f ρ μ = (match f ρ μ with | .ok _ μ1 => .ok (.d (.str "")) μ1 | .er x μ1 => ofO ((nm x).map fun s => W.d (.str s)) μ1 | .no => .no) := rfl
@[simp] theorem x_eLc (vs : List Nat) (t : TF) (it : IF) (c e : EF) : eLc vs t it c e ρ μ = (it ρ μ).bind fun l μ1 => lcL t c e (wipeE ρ vs) l [] μ1 := rfl
@[simp] theorem x_eApp (f e : EF) : eApp f e ρ μ = (f ρ μ).bind fun w μ1 => (match w with
  | .m k => (match mlist μ1 k with
    | some _ => (e ρ μ1).bind fun u μ2 => (match u, mlist μ2 k with
      | .d d, some l => if l.length < LIM then .ok (.d .none) (μ2.set k (some (.lst (l ++ [d])))) else .no
      | _, _ => .no)
    | none => .no)
  | _ => .no) := rfl
@[simp] theorem x_iSeq (f : EF) : iSeq f ρ μ = (f ρ μ).bind fun w μ1 => (match w with | .d d => ofO (items d) μ1 | _ => .no) := rfl
@[simp] theorem x_iRange1 (f : EF) : iRange1 f ρ μ = (f ρ μ).bind fun w μ1 => (match w with | .d (.int b) => if -(LIM : Int) ≤ b ∧ b ≤ LIM then .ok (rangeD 0 b) μ1 else .no | _ => .no) := rfl
@[simp] theorem x_eLRg (it : IF) : eLRg it ρ μ = (it ρ μ).bind fun l μ1 => .ok (.d (.list l)) μ1 := rfl
@[simp] theorem x_eLm (op : List D → D → Option D) (f g : EF) : eLm op f g ρ μ = (f ρ μ).bind fun a μ1 => (match a with
  | .d (.list l) => (g ρ μ1).bind fun b μ2 => ofO ((view μ2 b).bind fun y => (op l y).map W.d) μ2
  | _ => .no) := rfl
@[simp] theorem x_iRange2 (f g : EF) : iRange2 f g ρ μ = (f ρ μ).bind fun w μ1 => (g ρ μ1).bind fun u μ2 => (match w, u with
  | .d (.int a), .d (.int b) => if -(LIM : Int) ≤ a ∧ a ≤ LIM ∧ -(LIM : Int) ≤ b ∧ b ≤ LIM then .ok (rangeD a b) μ2 else .no
  | _, _ => .no) := rfl
@[simp] theorem x_iEnumD (f : EF) : iEnumD f ρ μ = (f ρ μ).bind fun w μ1 => (match w with
  | .d (.tuple l) => if l.length ≤ LIM then .ok (enumD l) μ1 else .no
  | .d (.list l) => if l.length ≤ LIM then .ok (enumD l) μ1 else .no
  | _ => .no) := rfl
@[simp] theorem x_eLenSet (f : EF) : eLenSet f ρ μ = (f ρ μ).bind fun w μ1 => (match w with
  | .d (.list l) => (match boolsL l with
    | some bs => if bs.length ≤ 1000 then .ok (.d (.int (cntB bs : Nat))) μ1 else .no
    | none => .no)
  | _ => .no) := rfl
@[simp] theorem x_eCatM (f g : EF) : eCatM f g ρ μ = (f ρ μ).bind fun a μ1 => (g ρ μ1).bind fun b μ2 => (match view μ2 a, view μ2 b with
  | some (.list x), some (.list y) => if x.length + y.length ≤ LIM then .ok (.m μ2.length) (μ2 ++ [some (.lst (x ++ y))]) else .no
  | _, _ => .no) := rfl
@[simp] theorem x_eCallV (i : Nat) (gs : List (Str × GF)) (a : AF) : eCallV i gs a ρ μ = (match ρ[i]? with
  | some (some (.f x)) => (match gs.lookup x with | some g => (a ρ μ).bind g | none => .no)
  | _ => .no) := rfl
@[simp] theorem x_eLcW (vs : List Nat) (i : Nat) (r : AF) (e : EF) : eLcW vs i r e ρ μ = (r ρ μ).bind fun ws μ1 => lcW i e (wipeE ρ vs) ws [] μ1 := rfl
/-! statements -/
@[simp] theorem x_sNil : sNil ρ μ = .nx ρ μ := rfl
@[simp] theorem x_sSeq (F G : SF) : sSeq F G ρ μ = (match F ρ μ with | .nx ρ1 μ1 => G ρ1 μ1 | r => r) := rfl
@[simp] theorem x_sAsg (i : Nat) (f : EF) : sAsg i f ρ μ = (f ρ μ).bindS fun w μ1 => .nx (ρ.set i (some w)) μ1 := rfl
@[simp] theorem x_sPar (i j : Nat) (f g : EF) : sPar i j f g ρ μ = (f ρ μ).bindS fun w μ1 => (g ρ μ1).bindS fun u μ2 => .nx ((ρ.set i (some w)).set j (some u)) μ2 := rfl
@[simp] theorem x_tName (i : Nat) (d : D) : tName i d ρ = some (ρ.set i (some (.d d))) := rfl
@[simp] theorem x_tTups0 : tTups [] [] ρ = some ρ := rfl
@[simp] theorem x_tTups1 (t : TF) (ts : List TF) (d : D) (ds : List D) : tTups (t :: ts) (d :: ds) ρ = (t d ρ).bind fun ρ1 => tTups ts ds ρ1 := rfl
@[simp] theorem x_tTup (ts : List TF) (ds : List D) : tTup ts (.tuple ds) ρ = tTups ts ds ρ := rfl
@[simp] theorem x_tUnl (ts : List TF) (ds : List D) : tUnl ts (.list ds) ρ = tTups ts ds ρ := rfl
@[simp] theorem x_sTgt (t : TF) (f : EF) : sTgt t f ρ μ = (f ρ μ).bindS fun w μ1 => (match w with | .d d => (match t d ρ with | some ρ1 => .nx ρ1 μ1 | none => .no) | _ => .no) := rfl
@[simp] theorem x_sDrop (f : EF) : sDrop f ρ μ = (f ρ μ).bindS fun _ μ1 => .nx ρ μ1 := rfl
@[simp] theorem x_sRet (f : EF) : sRet f ρ μ = (f ρ μ).bindS fun w μ1 => .rt w μ1 := rfl
@[simp] theorem x_sRetF (f : EF) : sRetF f ρ μ = (f ρ μ).bindS fun w μ1 => (match view μ1 w with | some d => .rt (.d d) (match w with | .m k => μ1.set k none | _ => μ1) | none => .no) := rfl
@[simp] theorem x_sIf (c : EF) (F G : SF) : sIf c F G ρ μ = RS.test (c ρ μ) fun b μ1 => if b = true then F ρ μ1 else G ρ μ1 := rfl
@[simp] theorem x_sFrz (i : Nat) : sFrz i ρ μ = (match ρ[i]? with
  | some (some (.m k)) => (match mlist μ k with | some l => .nx (ρ.set i (some (.d (.list l)))) (μ.set k none) | none => .no)
  | _ => .no) := rfl
@[simp] theorem x_sBreak : sBreak ρ μ = .bk ρ μ := rfl
@[simp] theorem x_sCont : sCont ρ μ = .ct ρ μ := rfl
@[simp] theorem x_sRaise (x : Str) : sRaise x ρ μ = .er ⟨x, none⟩ μ := rfl
@[simp] theorem x_sFor (t : TF) (it : IF) (B : SF) : sFor t it B ρ μ = (it ρ μ).bindS fun l μ1 => forL t B l ρ μ1 := rfl
@[simp] theorem x_sSub (o i e : EF) : sSub o i e ρ μ = (e ρ μ).bindS fun u μ1 => (o ρ μ1).bindS fun w μ2 => (i ρ μ2).bindS fun j μ3 => (match u, w, j with
  | .d d, .m k, .d (.int n) => (match mlist μ3 k with
    | some l => (match ixI l.length n with
      | some p => .nx ρ (μ3.set k (some (.lst (l.set p d))))
      | none => .no)
    | none => .no)
  | _, _, _ => .no) := rfl
end
@[simp] theorem x_test_er {x : Exn} {μ : Sto} (f : Bool → Sto → RS) : RS.test (R.er x μ) f = .er x μ := rfl
@[simp] theorem x_view_m (μ : Sto) (k : Nat) : view μ (.m k) = (mlist μ k).map .list := rfl
@[simp] theorem x_views0 (μ : Sto) : views μ [] = some [] := rfl
@[simp] theorem x_views1 (μ : Sto) (w : W) (r : List W) : views μ (w :: r) = (view μ w).bind fun d => (views μ r).map (d :: ·) := rfl
@[simp] theorem x_isN1 : isNonW (.d .none) = true := rfl
@[simp] theorem x_isN2 (i : Int) : isNonW (.d (.int i)) = false := rfl
@[simp] theorem x_isN3 (i : List D) : isNonW (.d (.tuple i)) = false := rfl
@[simp] theorem x_isN4 (i : List D) : isNonW (.d (.list i)) = false := rfl
@[simp] theorem x_isN5 (i : Str) : isNonW (.d (.str i)) = false := rfl
@[simp] theorem x_isN6 (i : Bool) : isNonW (.d (.bool i)) = false := rfl
@[simp] theorem x_startE (n : Nat) (ws : List W) : startE n ws = ws.map some ++ List.replicate (n - ws.length) none := rfl
@[simp] theorem x_addI (a b : Int) : dAdd (.int a) (.int b) = some (.int (a + b)) := rfl
@[simp] theorem x_subI (a b : Int) : dSub (.int a) (.int b) = some (.int (a - b)) := rfl
@[simp] theorem x_negI (a : Int) : dNeg (.int a) = some (.int (-a)) := rfl
@[simp] theorem x_ltI (a b : Int) : dLt (.int a) (.int b) = some (.bool (decide (a < b))) := rfl
@[simp] theorem x_leI (a b : Int) : dLe (.int a) (.int b) = some (.bool (decide (a ≤ b))) := rfl
@[simp] theorem x_gtI (a b : Int) : dGt (.int a) (.int b) = some (.bool (decide (b < a))) := rfl
@[simp] theorem x_geI (a b : Int) : dGe (.int a) (.int b) = some (.bool (decide (b ≤ a))) := rfl
theorem x_modI {a b : Int} (h : 0 < b) : dMod (.int a) (.int b) = some (.int (a % b)) := if_pos h
theorem x_divI {a b : Int} (h : 0 < b) (h2 : b < 2 ^ 1000) : dDiv (.int a) (.int b) = some (.int (a / b)) := if_pos ⟨h, h2⟩
theorem x_modN {a b : Int} (h : b < 0) : dMod (.int a) (.int b) = some (.int (a.fmod b)) := by
  show (if 0 < b then _ else _) = _
  rw [if_neg (by omega), if_pos h]
theorem x_divN {a b : Int} (h : b < 0) (h2 : b.natAbs < 2 ^ 1000) : dDiv (.int a) (.int b) = some (.int (a.fdiv b)) := by
  show (if divOk b then _ else _) = _
  rw [if_neg (fun hk => by have := hk.1; omega), if_pos ⟨h, h2⟩]
theorem x_mulI {a b : Int} (h : mulOk a b) : dMul (.int a) (.int b) = some (.int (a * b)) := if_pos h
theorem mulOk_l {a b : Int} (h : a.natAbs < 2 ^ 64) : mulOk a b := .inl (.inl h)
theorem mulOk_r {a b : Int} (h : b.natAbs < 2 ^ 64) : mulOk a b := .inl (.inr h)
@[simp] theorem x_int1 (a : Int) : bInt [.int a] = some (.int a) := rfl
theorem x_fin (n : Nat) (d : D) (μ : Sto) (h : μ.length = n) : fin n (.rt (.d d) μ) = .ok (.d d) μ := by
  simp [fin, List.take_of_length_le (Nat.le_of_eq h)]
theorem fnOf_eq {p n : Nat} {F : SF} {ws : List W} {μ : Sto} (h : ws.length = p) : fnOf p n F ws μ = fin μ.length (F (ws.map some ++ List.replicate (n - ws.length) none) μ) := if_pos h
theorem fnOf1 (n : Nat) (F : SF) (a : W) (μ : Sto) : fnOf 1 n F [a] μ = fin μ.length (F (some a :: List.replicate (n - 1) none) μ) := rfl
theorem fnOf2 (n : Nat) (F : SF) (a b : W) (μ : Sto) : fnOf 2 n F [a, b] μ = fin μ.length (F (some a :: some b :: List.replicate (n - 2) none) μ) := rfl
theorem fnOf3 (n : Nat) (F : SF) (a b c : W) (μ : Sto) : fnOf 3 n F [a, b, c] μ = fin μ.length (F (some a :: some b :: some c :: List.replicate (n - 3) none) μ) := rfl
@[simp] theorem x_rangeD_len (a b : Int) : (rangeD a b).length = (b - a).toNat := by simp [rangeD]
/-! loops -/
/-- a loop that goes on and on, what holds kept -/
theorem forL_keep {t : TF} {B : SF} (I : Env → Sto → Prop) : ∀ (l : List D) (ρ : Env) (μ : Sto), I ρ μ →
    (∀ d ∈ l, ∀ ρ μ, I ρ μ → ∃ ρ1, t d ρ = some ρ1 ∧ ∃ ρ2 μ2, B ρ1 μ = .nx ρ2 μ2 ∧ I ρ2 μ2) → ∃ ρ' μ', forL t B l ρ μ = .nx ρ' μ' ∧ I ρ' μ'
  | [], ρ, μ, h, _ => ⟨ρ, μ, rfl, h⟩
  | d :: r, ρ, μ, h, st => by
    obtain ⟨ρ1, e1, ρ2, μ2, e2, h2⟩ := st d List.mem_cons_self ρ μ h
    obtain ⟨ρ', μ', e3, h3⟩ := forL_keep I r ρ2 μ2 h2 fun d hd => st d (List.mem_cons_of_mem _ hd)
    exact ⟨ρ', μ', by unfold forL; rw [e1]; dsimp only; rw [e2]; exact e3, h3⟩
/-- .. told by how many have been walked -/
theorem forL_count {t : TF} {B : SF} (I : Nat → Env → Sto → Prop) (n : Nat) : ∀ (l : List D) (i : Nat) (ρ : Env) (μ : Sto), i + l.length ≤ n → I i ρ μ →
    (∀ i d ρ μ, i < n → d ∈ l → I i ρ μ → ∃ ρ1, t d ρ = some ρ1 ∧ ∃ ρ2 μ2, B ρ1 μ = .nx ρ2 μ2 ∧ I (i + 1) ρ2 μ2) → ∃ ρ' μ', forL t B l ρ μ = .nx ρ' μ' ∧ I (i + l.length) ρ' μ'
  | [], i, ρ, μ, _, h, _ => ⟨ρ, μ, rfl, h⟩
  | d :: r, i, ρ, μ, hn, h, st => by
    rw [List.length_cons] at hn
    obtain ⟨ρ1, e1, ρ2, μ2, e2, h2⟩ := st i d ρ μ (by omega) List.mem_cons_self h
    obtain ⟨ρ', μ', e3, h3⟩ := forL_count I n r (i + 1) ρ2 μ2 (by omega) h2 fun i e ρ μ hi he => st i e ρ μ hi (List.mem_cons_of_mem _ he)
    exact ⟨ρ', μ', by unfold forL; rw [e1]; dsimp only; rw [e2]; exact e3, by rw [List.length_cons]; rw [show i + (r.length + 1) = i + 1 + r.length by omega]; exact h3⟩
/-- .. told by the list that is left and the walked one -/
theorem forL_upto {t : TF} {B : SF} (I : List D → Env → Sto → Prop) (L : List D) : ∀ (l p : List D) (ρ : Env) (μ : Sto), L = p ++ l → I p ρ μ →
    (∀ p d q ρ μ, L = p ++ d :: q → I p ρ μ → ∃ ρ1, t d ρ = some ρ1 ∧ ∃ ρ2 μ2, B ρ1 μ = .nx ρ2 μ2 ∧ I (p ++ [d]) ρ2 μ2) → ∃ ρ' μ', forL t B l ρ μ = .nx ρ' μ' ∧ I L ρ' μ'
  | [], p, ρ, μ, e, h, _ => ⟨ρ, μ, rfl, by rw [e, List.append_nil]; exact h⟩
  | d :: r, p, ρ, μ, e, h, st => by
    obtain ⟨ρ1, e1, ρ2, μ2, e2, h2⟩ := st p d r ρ μ e h
    obtain ⟨ρ', μ', e3, h3⟩ := forL_upto I L r (p ++ [d]) ρ2 μ2 (by rw [e]; simp) h2 st
    exact ⟨ρ', μ', by unfold forL; rw [e1]; dsimp only; rw [e2]; exact e3, h3⟩
theorem forL_uptoT {α : Type} (f : α → D) {t : TF} {B : SF} (I : List α → Env → Sto → Prop) (L : List α) : ∀ (l p : List α) (ρ : Env) (μ : Sto), L = p ++ l → I p ρ μ →
    (∀ p d q ρ μ, L = p ++ d :: q → I p ρ μ → ∃ ρ1, t (f d) ρ = some ρ1 ∧ ∃ ρ2 μ2, B ρ1 μ = .nx ρ2 μ2 ∧ I (p ++ [d]) ρ2 μ2) → ∃ ρ' μ', forL t B (l.map f) ρ μ = .nx ρ' μ' ∧ I L ρ' μ'
  | [], p, ρ, μ, e, h, _ => ⟨ρ, μ, rfl, by rw [e, List.append_nil]; exact h⟩
  | d :: r, p, ρ, μ, e, h, st => by
    obtain ⟨ρ1, e1, ρ2, μ2, e2, h2⟩ := st p d r ρ μ e h
    obtain ⟨ρ', μ', e3, h3⟩ := forL_uptoT f I L r (p ++ [d]) ρ2 μ2 (by rw [e]; simp) h2 st
    exact ⟨ρ', μ', by rw [List.map_cons]; unfold forL; rw [e1]; dsimp only; rw [e2]; exact e3, h3⟩
/-- a comprehension whose items are told by a map; nothing is changed -/
theorem lc_map {t : TF} {c e : EF} {ρ : Env} {μ : Sto} (y : D → D) : ∀ (l acc : List D), (∀ d ∈ l, ∃ ρ1, t d ρ = some ρ1 ∧ c ρ1 μ = .ok (.d (.bool true)) μ ∧ e ρ1 μ = .ok (.d (y d)) μ) → lcL t c e ρ l acc μ = .ok (.d (.list (acc ++ l.map y))) μ
  | [], acc, _ => by simp [lcL]
  | d :: r, acc, h => by
    obtain ⟨ρ1, e1, e2, e3⟩ := h d List.mem_cons_self
    unfold lcL
    rw [e1]
    dsimp only
    rw [e2]
    dsimp only
    rw [e3]
    dsimp only
    rw [lc_map y r (acc ++ [y d]) fun d hd => h d (List.mem_cons_of_mem _ hd)]
    simp
/-- .. with a test -/
theorem lc_filter {t : TF} {c e : EF} {ρ : Env} {μ : Sto} (p : D → Bool) (y : D → D) : ∀ (l acc : List D), (∀ d ∈ l, ∃ ρ1, t d ρ = some ρ1 ∧ c ρ1 μ = .ok (.d (.bool (p d))) μ ∧ (p d = true → e ρ1 μ = .ok (.d (y d)) μ)) →
    lcL t c e ρ l acc μ = .ok (.d (.list (acc ++ (l.filter p).map y))) μ
  | [], acc, _ => by simp [lcL]
  | d :: r, acc, h => by
    obtain ⟨ρ1, e1, e2, e3⟩ := h d List.mem_cons_self
    unfold lcL
    rw [e1]
    dsimp only
    rw [e2]
    cases hp : p d with
    | true =>
      dsimp only
      rw [e3 hp]
      dsimp only
      rw [lc_filter p y r (acc ++ [y d]) fun d hd => h d (List.mem_cons_of_mem _ hd)]
      simp [hp]
    | false =>
      dsimp only
      rw [lc_filter p y r acc fun d hd => h d (List.mem_cons_of_mem _ hd)]
      simp [hp]
/-- over things that stand for data -/
theorem lc_mapT {α : Type} {t : TF} {c e : EF} {ρ : Env} {μ : Sto} (f : α → D) (g : α → D) : ∀ (l : List α) (acc : List D), (∀ x ∈ l, ∃ ρ1, t (f x) ρ = some ρ1 ∧ c ρ1 μ = .ok (.d (.bool true)) μ ∧ e ρ1 μ = .ok (.d (g x)) μ) →
    lcL t c e ρ (l.map f) acc μ = .ok (.d (.list (acc ++ l.map g))) μ
  | [], acc, _ => by simp [lcL]
  | d :: r, acc, h => by
    obtain ⟨ρ1, e1, e2, e3⟩ := h d List.mem_cons_self
    rw [List.map_cons]
    unfold lcL
    rw [e1]
    dsimp only
    rw [e2]
    dsimp only
    rw [e3]
    dsimp only
    rw [lc_mapT f g r (acc ++ [g d]) fun d hd => h d (List.mem_cons_of_mem _ hd)]
    simp
theorem dEqI (i j : Int) : dEq (.int i) (.int j) = some (.bool (i == j)) := rfl
theorem dNeI (i j : Int) : dNe (.int i) (.int j) = some (.bool (!(i == j))) := rfl
theorem dEqD {a b : D} (ha : SeqAt.shaped a = true) (hb : SeqAt.shaped b = true) : dEq a b = some (.bool (PyData.eqv a b)) := if_pos ⟨ha, hb⟩
theorem dNeD {a b : D} (ha : SeqAt.shaped a = true) (hb : SeqAt.shaped b = true) : dNe a b = some (.bool (!PyData.eqv a b)) := if_pos ⟨ha, hb⟩
theorem dEqS {x y : Str} (ha : SeqAt.shaped (.str x) = true) (hb : SeqAt.shaped (.str y) = true) : dEq (.str x) (.str y) = some (.bool (x == y)) := by rw [dEqD ha hb]; rfl
theorem dNeS {x y : Str} (ha : SeqAt.shaped (.str x) = true) (hb : SeqAt.shaped (.str y) = true) : dNe (.str x) (.str y) = some (.bool (!(x == y))) := by rw [dNeD ha hb]; rfl
theorem canAll_mem : ∀ {l : List D} {x : D}, PyData.canLayAll0 l = true → x ∈ l → x.canLay0 = true
  | y :: r, x, h, hx => by
    rw [PyData.canLayAll0, Bool.and_eq_true] at h
    rcases List.mem_cons.mp hx with rfl | hx
    · exact h.1
    · exact canAll_mem h.2 hx
theorem depth_mem : ∀ {l : List D} {x : D}, x ∈ l → x.depth ≤ PyData.depthAll l
  | y :: r, x, hx => by
    rw [PyData.depthAll]
    rcases List.mem_cons.mp hx with rfl | hx
    · exact Nat.le_max_left _ _
    · exact Nat.le_trans (depth_mem hx) (Nat.le_max_right _ _)
theorem shaped_iff {d : D} : SeqAt.shaped d = true ↔ d.canLay0 = true ∧ d.depth ≤ 64 := by simp [SeqAt.shaped]
theorem shaped_tup {l : List D} (h : SeqAt.shaped (.tuple l) = true) : ∀ x ∈ l, SeqAt.shaped x = true := fun x hx => by
  obtain ⟨h1, h2⟩ := shaped_iff.mp h
  rw [PyData.canLay0] at h1
  rw [PyData.depth] at h2
  exact shaped_iff.mpr ⟨canAll_mem h1 hx, by have := depth_mem hx; omega⟩
theorem shaped_lst {l : List D} (h : SeqAt.shaped (.list l) = true) : ∀ x ∈ l, SeqAt.shaped x = true := fun x hx => by
  obtain ⟨h1, h2⟩ := shaped_iff.mp h
  rw [PyData.canLay0] at h1
  rw [PyData.depth] at h2
  exact shaped_iff.mpr ⟨canAll_mem h1 hx, by have := depth_mem hx; omega⟩
end Mi

set_option linter.all false
set_option Elab.async false
set_option maxRecDepth 100000
/-! The words of objects, run by simp. -/
namespace Mi
open PySem L3
section
variable (ρ : Env) (μ : Sto)
@[simp] theorem x_eFld (c x : Str) (f : EF) : eFld c x f ρ μ = (f ρ μ).bind fun w μ1 => (match w with
  | .m k => (match mins μ1 k with
    | some (c', fs) => if c' = c then ofO ((fs.lookup x).map W.d) μ1 else .no
    | none => .no)
  | _ => .no) := rfl
@[simp] theorem x_sFldS (c x : Str) (f g : EF) : sFldS c x f g ρ μ = (g ρ μ).bindS fun w μ1 => (f ρ μ1).bindS fun o μ2 => (match w, o with
  | .d d, .m k => (match mins μ2 k with
    | some (c', fs) => if c' = c ∧ fs.length < 900 then .nx ρ (μ2.set k (some (.ins c (putD x d fs)))) else .no
    | none => .no)
  | _, _ => .no) := rfl
@[simp] theorem x_eMeth (c m : Str) (g : GF) (f : EF) (a : AF) : eMeth c m g f a ρ μ = (f ρ μ).bind fun w μ1 => (match w with
  | .m k => (match mins μ1 k with
    | some (c', fs) => if c' = c ∧ fs.lookup m = none then (a ρ μ1).bind fun ws μ2 => g (.m k :: ws) μ2 else .no
    | none => .no)
  | _ => .no) := rfl
@[simp] theorem x_noEr1 {α : Type} (a : α) (μ : Sto) : noEr (R.ok a μ) = .ok a μ := rfl
@[simp] theorem x_eProp (c : Str) (g : GF) (f : EF) : eProp c g f ρ μ = (f ρ μ).bind fun w μ1 => (match w with
  | .m k => (match mins μ1 k with
    | some (c', _) => if c' = c then noEr (g [.m k] μ1) else .no
    | none => .no)
  | _ => .no) := rfl
@[simp] theorem x_eNew (c : Str) (g : GF) (a : AF) : eNew c g a ρ μ = (a ρ μ).bind fun ws μ1 => (g (.m μ1.length :: ws) (μ1 ++ [some (.ins c [])])).bind fun r μ2 => (match r with
  | .d .none => .ok (.m μ1.length) μ2
  | _ => .no) := rfl
@[simp] theorem x_eTruM (c : Str) (g : GF) (f : EF) : eTruM c g f ρ μ = (f ρ μ).bind fun w μ1 => (match w with
  | .m k => (match mins μ1 k with
    | some (c', _) => if c' = c then (g [.m k] μ1).bind fun r μ2 => (match r with
      | .d (.bool b) => .ok (.d (.bool b)) μ2
      | _ => .no)
      else .no
    | none => .no)
  | _ => .no) := rfl
@[simp] theorem x_eBinM (c : Str) (g : GF) (f e : EF) : eBinM c g f e ρ μ = (f ρ μ).bind fun w μ1 => (e ρ μ1).bind fun u μ2 => (match w, u with
  | .m k, .d d => (match mins μ2 k with
    | some (c', _) => if c' = c then g [.m k, .d d] μ2 else .no
    | none => .no)
  | _, _ => .no) := rfl
@[simp] theorem x_eUnM (c : Str) (g : GF) (f : EF) : eUnM c g f ρ μ = (f ρ μ).bind fun w μ1 => (match w with
  | .m k => (match mins μ1 k with
    | some (c', _) => if c' = c then g [.m k] μ1 else .no
    | none => .no)
  | _ => .no) := rfl
@[simp] theorem x_eCalM (c : Str) (g : GF) (f : EF) (a : AF) : eCalM c g f a ρ μ = (f ρ μ).bind fun w μ1 => (match w with
  | .m k => (a ρ μ1).bind fun ws μ2 => (match mins μ2 k with
    | some (c', _) => if c' = c then g (.m k :: ws) μ2 else .no
    | none => .no)
  | _ => .no) := rfl
@[simp] theorem x_eInM (c : Str) (g : GF) (neg : Bool) (e f : EF) : eInM c g neg e f ρ μ = (e ρ μ).bind fun u μ1 => (f ρ μ1).bind fun w μ2 => (match w, u with
  | .m k, .d d => (match mins μ2 k with
    | some (c', _) => if c' = c then (g [.m k, .d d] μ2).bind fun r μ3 => (match r with
      | .d (.bool b) => .ok (.d (.bool (if neg then !b else b))) μ3
      | _ => .no) else .no
    | none => .no)
  | _, _ => .no) := rfl
@[simp] theorem x_eLenM (c : Str) (g : GF) (f : EF) : eLenM c g f ρ μ = (f ρ μ).bind fun w μ1 => (match w with
  | .m k => (match mins μ1 k with
    | some (c', _) => if c' = c then (g [.m k] μ1).bind fun r μ2 => (match r with
      | .d (.int n) => if 0 ≤ n ∧ n < 1000000 then .ok (.d (.int n)) μ2 else .no
      | _ => .no) else .no
    | none => .no)
  | _ => .no) := rfl
@[simp] theorem x_eIsO (c : Str) (f : EF) : eIsO c f ρ μ = (f ρ μ).bind fun w μ1 => (match w with
  | .m k => (match mins μ1 k with
    | some (c', _) => if c' = c then .ok (.d (.bool true)) μ1 else .no
    | none => .no)
  | .d _ => .ok (.d (.bool false)) μ1
  | _ => .no) := rfl
@[simp] theorem x_eEqM (c : Str) (g : GF) (f e : EF) : eEqM c g f e ρ μ = (f ρ μ).bind fun w μ1 => (e ρ μ1).bind fun u μ2 => (match w with
  | .m k => (match mins μ2 k with
    | some (c', _) => if c' = c then (match u with
      | .d d => g [.m k, .d d] μ2
      | .m k2 => (match mins μ2 k2 with
        | some (c2, _) => if c2 = c then g [.m k, .m k2] μ2 else .no
        | none => .no)
      | _ => .no) else .no
    | none => .no)
  | _ => .no) := rfl
@[simp] theorem x_eNeM (c : Str) (g : GF) (f e : EF) : eNeM c g f e ρ μ = (f ρ μ).bind fun w μ1 => (e ρ μ1).bind fun u μ2 => (match w, u with
  | .m k, .m k2 => (match mins μ2 k, mins μ2 k2 with
    | some (c1, _), some (c2, _) => if c1 = c ∧ c2 = c then (g [.m k, .m k2] μ2).bind fun r μ3 => (match r with
      | .d (.bool b) => .ok (.d (.bool (!b))) μ3
      | _ => .no) else .no
    | _, _ => .no)
  | _, _ => .no) := rfl
@[simp] theorem x_eNewS (c : Str) (g : GF) (a : AF) : eNewS c g a ρ μ = (a ρ μ).bind fun ws μ1 => (match asDs ws with
  | some ds => (g [.m μ1.length, .d (.tuple ds)] (μ1 ++ [some (.ins c [])])).bind fun r μ2 => (match r with
    | .d .none => .ok (.m μ1.length) μ2
    | _ => .no)
  | none => .no) := rfl
@[simp] theorem x_eNewStar (c : Str) (g : GF) (f : EF) : eNewStar c g f ρ μ = (f ρ μ).bind fun w μ1 => (match w with
  | .d (.tuple ds) => if ds.length ≤ LIM then (g [.m μ1.length, .d (.tuple ds)] (μ1 ++ [some (.ins c [])])).bind fun r μ2 => (match r with
    | .d .none => .ok (.m μ1.length) μ2
    | _ => .no) else .no
  | _ => .no) := rfl
@[simp] theorem x_eOut (c : Str) (g : GF) (nm : Exn → Option Str) (f : EF) : eOut c g nm f ρ μ = (match f ρ μ with
  | .ok (.m k) μ1 => (match mins μ1 k with
    | some (c', _) => if c' = c then noEr (g [.m k] μ1) else .no
    | none => .no)
  | .er x μ1 => ofO ((nm x).map fun s => W.d (.str s)) μ1
  | _ => .no) := rfl
@[simp] theorem x_sTryN (nm : Exn → Option Str) (F : SF) : sTryN nm F ρ μ = (match F ρ μ with
  | .er x μ1 => (match nm x with
    | some s => .rt (.d (.str s)) μ1
    | none => .no)
  | r => r) := rfl
@[simp] theorem x_sAugM (c : Str) (g : GF) (i : Nat) (e : EF) : sAugM c g i e ρ μ = (match ρ[i]? with
  | some (some (.m k)) => (e ρ μ).bindS fun u μ1 => (match u with
    | .d d => (match mins μ1 k with
      | some (c', _) => if c' = c then (g [.m k, .d d] μ1).bindS fun r μ2 => .nx (ρ.set i (some r)) μ2 else .no
      | none => .no)
    | _ => .no)
  | _ => .no) := rfl
end
end Mi

set_option linter.all false
set_option Elab.async false
set_option maxRecDepth 100000
set_option maxHeartbeats 1000000
/-! The plain law: what the law's own draws are. -/
namespace Pure
open PySem Mi Mir
/-- the drum -/
def drum (a b : Int) : Option Cell := some (.lst [.int a, .int b])
structure DrumAt (μ : Sto) (k : Nat) : Prop where
  at_ : ∃ a b, μ[k]? = some (drum a b) ∧ 0 ≤ a ∧ 0 ≤ b ∧ b < 4294967296
theorem DrumAt.lt {μ : Sto} {k : Nat} (h : DrumAt μ k) : k < μ.length := by
  obtain ⟨a, b, e, _⟩ := h.at_
  exact (List.getElem?_eq_some_iff.mp e).1
/-- the store with the drum rolled on -/
def Rolled (k : Nat) (μ μ' : Sto) : Prop := ∃ a b, μ' = μ.set k (drum a b) ∧ 0 ≤ a ∧ 0 ≤ b ∧ b < 4294967296
theorem Rolled.at_ {k : Nat} {μ μ' : Sto} (r : Rolled k μ μ') (h : k < μ.length) : DrumAt μ' k := by
  obtain ⟨a, b, rfl, ha, hb, hb2⟩ := r
  exact ⟨a, b, by simp [h], ha, hb, hb2⟩
theorem Rolled.len {k : Nat} {μ μ' : Sto} (r : Rolled k μ μ') : μ'.length = μ.length := by
  obtain ⟨a, b, rfl, _⟩ := r
  simp
theorem Rolled.ne {k j : Nat} {μ μ' : Sto} (r : Rolled k μ μ') (h : k ≠ j) : μ'[j]? = μ[j]? := by
  obtain ⟨a, b, rfl, _⟩ := r
  exact List.getElem?_set_ne h
theorem Rolled.trans {k : Nat} {μ μ1 μ2 : Sto} (r : Rolled k μ μ1) (s : Rolled k μ1 μ2) : Rolled k μ μ2 := by
  obtain ⟨a, b, rfl, _⟩ := r
  obtain ⟨a', b', rfl, h⟩ := s
  exact ⟨a', b', by rw [List.set_set], h⟩
theorem ml_set {μ : Sto} {k : Nat} {l : List D} (h : k < μ.length) : mlist (μ.set k (some (.lst l))) k = some l := by simp [mlist, h]
theorem ix0 (x : D) (l : List D) : dIx (.list (x :: l)) (.int 0) = some x := by simp [dIx, ixI]
theorem ix1 (x y : D) (l : List D) : dIx (.list (x :: y :: l)) (.int 1) = some y := by
  have : (1 : Int) < (l.length : Int) + 1 + 1 := by omega
  simp [dIx, ixI, this]
theorem roll_spec {μ : Sto} {k : Nat} {many : Int} (h : DrumAt μ k) (hm : 0 < many) (hm2 : many < 2 ^ 1000) :
    ∃ r μ', 0 ≤ r ∧ r < many ∧ Rolled k μ μ' ∧ g__law_roll [.m k, .d (.int many)] μ = .ok (.d (.int r)) μ' := by
  obtain ⟨a, b, e, ha, hb, hb2⟩ := h.at_
  have hk : k < μ.length := h.lt
  have ml : mlist μ k = some [.int a, .int b] := by simp [mlist, e, drum]
  unfold g__law_roll fnOf
  by_cases hp : 0 < a
  · refine ⟨a % many, _, Int.emod_nonneg _ (by omega), Int.emod_lt_of_pos _ hm, ⟨a / many, b, rfl, Int.ediv_nonneg ha (by omega), hb, hb2⟩, ?_⟩
    simp [F__law_roll, ml, ix0, hp, x_modI hm, x_divI hm hm2, ixI]
    rw [x_fin _ _ _ (by simp)]
    simp [drum]
  · have m1 : mulOk b 30671 := mulOk_r (by decide)
    have m2 : ∀ x y : Int, 0 ≤ x → x < 2147483549 → mulOk x y := fun x y h1 h2 => mulOk_l (by omega)
    generalize hb' : (b * 30671 + 8807) % 2147483549 = b1
    have hb1 : 0 ≤ b1 := by rw [← hb']; exact Int.emod_nonneg _ (by decide)
    have hb3 : b1 < 2147483549 := by rw [← hb']; exact Int.emod_lt_of_pos _ (by decide)
    have i1 : ixI (List.length [PyData.int a, PyData.int b]) 1 = some 1 := rfl
    refine ⟨(b1 * (b1 + 101) % 2147483587 / 613) % many, _, Int.emod_nonneg _ (by omega), Int.emod_lt_of_pos _ hm, ⟨a, b1, rfl, ha, hb1, by omega⟩, ?_⟩
    simp [F__law_roll, ml, ix0, ix1, hp, x_mulI m1, x_modI, hb', x_mulI (m2 b1 _ hb1 hb3), x_modI hm, x_divI (show (0 : Int) < 613 by decide) (by decide), ixI, ml_set hk]
    rw [x_fin _ _ _ (by simp)]
    simp [drum]
theorem some_spec {μ : Sto} {k : Nat} {l : List D} (h : DrumAt μ k) (hl : l ≠ []) (hl2 : l.length < 1000) :
    ∃ d μ', d ∈ l ∧ Rolled k μ μ' ∧ g__law_some [.m k, .d (.list l)] μ = .ok (.d d) μ' := by
  have h0 : 0 < l.length := List.length_pos_iff.mpr hl
  obtain ⟨r, μ', h1, h2, hr, e⟩ := roll_spec (many := l.length) h (by omega) (Int.lt_of_lt_of_le (show (l.length : Int) < 1000 by omega) (by decide))
  have hi : r.toNat < l.length := by omega
  refine ⟨l[r.toNat], μ', List.getElem_mem hi, hr, ?_⟩
  unfold g__law_some fnOf
  simp [F__law_some, bLen, e, dIx, ixI, h1, h2, hi]
  rw [x_fin _ _ _ hr.len]
theorem drum_spec {cell turn : Int} {μ : Sto} (ht : 0 ≤ turn) (ht2 : turn < 1000) : ∃ a b, 0 ≤ a ∧ 0 ≤ b ∧ b < 4294967296 ∧ g__law_drum [.d (.int cell), .d (.int turn)] μ = .ok (.m μ.length) (μ ++ [drum a b]) := by
  have p18 : dPow (.int 10) (.int 18) = some (.int (10 ^ 18)) := rfl
  have m1 : mulOk 61 turn := mulOk_l (by decide)
  have m2 : mulOk cell 97 := mulOk_r (by decide)
  have m3 : mulOk 1087 turn := mulOk_l (by decide)
  unfold g__law_drum fnOf
  by_cases hc : (1000000000000000000 : Int) ≤ cell
  · refine ⟨cell / 7 + 61 * turn, (cell * 97 + 1087 * turn) % 2077504273 + 71, by omega, by omega, by omega, ?_⟩
    simp [F__law_drum, p18, hc, x_divI (show (0 : Int) < 7 by decide) (by decide), x_mulI m1, x_mulI m2, x_mulI m3, x_modI, fin, drum, List.take_of_length_le]
  · refine ⟨0, (cell * 97 + 1087 * turn) % 2077504273 + 71, by omega, by omega, by omega, ?_⟩
    simp [F__law_drum, p18, hc, x_divI (show (0 : Int) < 7 by decide) (by decide), x_mulI m1, x_mulI m2, x_mulI m3, x_modI, fin, drum, List.take_of_length_le]
end Pure

set_option linter.all false
set_option Elab.async false
set_option maxRecDepth 100000
set_option maxHeartbeats 1000000
/-! The plain law: the changes that the law makes up. -/
namespace Pure
open PySem Mi Mir
structure Pc where
  lo : Option Int
  hi : Option Int
  set : Bool
  by_ : Int
def oD : Option Int → D
  | none => .none
  | some i => .int i
@[simp] theorem oD_none : oD none = .none := rfl
@[simp] theorem oD_some (i : Int) : oD (some i) = .int i := rfl
def wd (b : Bool) : Str := if b then "set" else "add"
def Pc.d (p : Pc) : D := .tuple [oD p.lo, oD p.hi, .str (wd p.set), .int p.by_]
def far : Int := 1000000000000000000000000000000
def EndOk (o : Option Int) : Prop := ∀ i, o = some i → -far ≤ i ∧ i ≤ far
structure PcOk (p : Pc) : Prop where
  lo : EndOk p.lo
  hi : EndOk p.hi
  le : ∀ i j, p.lo = some i → p.hi = some j → i ≤ j
  by1 : -far ≤ p.by_
  by2 : p.by_ ≤ far
  add : p.set = false → p.by_ ≠ 0
def Ap (p q : Pc) : Prop := ∃ h l, p.hi = some h ∧ q.lo = some l ∧ h < l
def Apart : List Pc → Prop
  | p :: q :: r => Ap p q ∧ Apart (q :: r)
  | _ => True
theorem apart_snoc (q : Pc) : ∀ ps : List Pc, Apart ps → (∀ p, ps.getLast? = some p → Ap p q) → Apart (ps ++ [q])
  | [], _, _ => True.intro
  | [p], _, h => ⟨h p rfl, True.intro⟩
  | p :: p' :: r, ha, h => ⟨ha.1, apart_snoc q (p' :: r) ha.2 fun x hx => h x (by rw [List.getLast?_cons_cons]; exact hx)⟩
theorem apart_first {p p' : Pc} (h : p'.hi = p.hi) : ∀ r : List Pc, Apart (p :: r) → Apart (p' :: r)
  | [], _ => True.intro
  | q :: r, ha => ⟨by obtain ⟨a, b, h1, h2, h3⟩ := ha.1; exact ⟨a, b, by rw [h]; exact h1, h2, h3⟩, ha.2⟩
theorem apart_last {p p' : Pc} (h : p'.lo = p.lo) : ∀ r : List Pc, Apart (r ++ [p]) → Apart (r ++ [p'])
  | [], _ => True.intro
  | [q], ha => ⟨by obtain ⟨a, b, h1, h2, h3⟩ := ha.1; exact ⟨a, b, h1, by rw [h]; exact h2, h3⟩, True.intro⟩
  | q :: q' :: r, ha => ⟨ha.1, apart_last h (q' :: r) ha.2⟩
structure ChOk (ps : List Pc) : Prop where
  one : 1 ≤ ps.length
  four : ps.length ≤ 4
  all : ∀ p ∈ ps, PcOk p
  apart : Apart ps
theorem DrumAt.app {μ : Sto} {k : Nat} (h : DrumAt μ k) (ν : Sto) : DrumAt (μ ++ ν) k := by
  obtain ⟨a, b, e, r⟩ := h.at_
  exact ⟨a, b, by rw [List.getElem?_append_left h.lt]; exact e, r⟩
theorem Rolled.app {μ ν μ' : Sto} {k : Nat} (r : Rolled k (μ ++ ν) μ') (h : k < μ.length) : ∃ μ2, μ' = μ2 ++ ν ∧ Rolled k μ μ2 := by
  obtain ⟨a, b, rfl, h1⟩ := r
  exact ⟨μ.set k (drum a b), by rw [List.set_append_left _ _ h], a, b, rfl, h1⟩
theorem Rolled.refl {μ : Sto} {k : Nat} (h : DrumAt μ k) : Rolled k μ μ := by
  obtain ⟨a, b, e, r⟩ := h.at_
  refine ⟨a, b, (List.ext_getElem? fun j => ?_).symm, r⟩
  by_cases hj : k = j
  · subst hj
    rw [List.getElem?_set_self h.lt, e]
  · rw [List.getElem?_set_ne hj]
theorem ml_last (μ : Sto) (l : List D) : mlist (μ ++ [some (.lst l)]) μ.length = some l := by simp [mlist]
theorem set_last (μ : Sto) (c c' : Option Cell) : (μ ++ [c]).set μ.length c' = μ ++ [c'] := by simp
theorem ixL (l : List D) (x : D) : dIx (.list (l ++ [x])) (.int (-1)) = some x := by
  have h1 : (-((l.length : Int) + 1) ≤ -1) := by omega
  have h2 : (-1 + ((l.length : Int) + 1)).toNat = l.length := by omega
  simp [dIx, ixI, h1, h2]
theorem ixI_last (n : Nat) : ixI (n + 1) (-1) = some n := by
  have h1 : (-((n : Int) + 1) ≤ -1) := by omega
  have h2 : (-1 + ((n : Int) + 1)).toNat = n := by omega
  simp [ixI, h1, h2]
/-- what the making of a change keeps -/
structure Row (ps : List Pc) (low : Int) : Prop where
  all : ∀ p ∈ ps, PcOk p ∧ (∃ l, p.lo = some l) ∧ ∃ h, p.hi = some h
  apart : Apart ps
  last : ∀ p, ps.getLast? = some p → ∃ h, p.hi = some h ∧ h < low
theorem far_big : (1000000000 : Int) ≤ far := by decide
theorem Row.snoc {ps : List Pc} {low low' high : Int} {s : Bool} {b : Int} (r : Row ps low) (h1 : -1000000 ≤ low) (h2 : low ≤ high) (h3 : high ≤ 1000000) (hl : high < low') (hb : -1000000 ≤ b) (hb2 : b ≤ 1000000) (ha : s = false → b ≠ 0) :
    Row (ps ++ [⟨some low, some high, s, b⟩]) low' := by
  have hf := far_big
  refine ⟨fun p hp => ?_, apart_snoc _ ps r.apart fun p hp => ?_, fun p hp => ?_⟩
  · rcases List.mem_append.mp hp with hp | hp
    · exact r.all p hp
    · obtain rfl := List.mem_singleton.mp hp
      refine ⟨⟨fun i e => ?_, fun i e => ?_, fun i j e1 e2 => ?_, by show -far ≤ b; omega, by show b ≤ far; omega, ha⟩, ⟨low, rfl⟩, ⟨high, rfl⟩⟩
      · cases e; omega
      · cases e; omega
      · cases e1; cases e2; exact h2
  · obtain ⟨h, e, hh⟩ := r.last p hp
    exact ⟨h, low, e, rfl, hh⟩
  · rw [List.getLast?_append] at hp
    cases hp
    exact ⟨high, rfl, hl⟩
/-- the law's pieces are small -/
structure PcSm (m : Int) (p : Pc) : Prop where
  lo : ∀ i, p.lo = some i → -20 ≤ i ∧ i ≤ 44
  hi : ∀ i, p.hi = some i → -20 ≤ i ∧ i ≤ 44
  add : p.set = false → -m ≤ p.by_ ∧ p.by_ ≤ m
  set : p.set = true → -22 ≤ p.by_ ∧ p.by_ ≤ 41
theorem mem3 {d a b c : D} (h : d ∈ [a, b, c]) : d = a ∨ d = b ∨ d = c := by simpa using h
/-- one turn's piece -/
theorem change_turn {μ : Sto} {k : Nat} {most : Int} {ps : List Pc} {low : Int} {x4 x5 x6 x7 : Option W} (h : DrumAt μ k) (hm : 0 < most) (hm2 : most ≤ 1000) (hl : -1000000 ≤ low + 0) (r : Row ps low) (hlo : -20 ≤ low) (hhi : low ≤ 30) (hlen : ps.length < 1000) (j : D) :
    ∃ p low' μ' h w b, Row (ps ++ [p]) low' ∧ PcSm most p ∧ low ≤ low' ∧ low' ≤ low + 19 ∧ Rolled k μ μ' ∧
      (sSeq (sAsg 5 (eOp dAdd (eVar 3) (eCall g__law_some (aCons (eVar 0) (aCons (eLst (aCons (eInt 0) (aCons (eInt 2) (aCons (eInt 5) (aCons (eInt 9) (aCons (eInt 14) aNil)))))) aNil)))))
    (sSeq (sAsg 6 (eCall g__law_some (aCons (eVar 0) (aCons (eLst (aCons (eStr "add") (aCons (eStr "add") (aCons (eStr "add") (aCons (eStr "set") aNil))))) aNil))))
    (sSeq (sAsg 7 (eIf (eOp dEq (eVar 6) (eStr "add")) (eOp dMul (eCall g__law_some (aCons (eVar 0) (aCons (eLst (aCons (eUn dNeg (eInt 1)) (aCons (eInt 1) (aCons (eInt 1) aNil)))) aNil))) (eOp dAdd (eInt 1) (eCall g__law_roll (aCons (eVar 0) (aCons (eVar 1) aNil))))) (eOp dAdd (eUn dNeg (eInt 22)) (eCall g__law_roll (aCons (eVar 0) (aCons (eInt 64) aNil))))))
    (sSeq (sDrop (eApp (eVar 2) (eTup (aCons (eVar 3) (aCons (eVar 5) (aCons (eVar 6) (aCons (eVar 7) aNil)))))))
    (sAsg 3 (eOp dAdd (eOp dAdd (eVar 5) (eInt 1)) (eCall g__law_some (aCons (eVar 0) (aCons (eLst (aCons (eInt 0) (aCons (eInt 0) (aCons (eInt 1) (aCons (eInt 4) aNil))))) aNil))))))))) 
      [some (.m k), some (.d (.int most)), some (.m μ.length), some (.d (.int low)), x4, x5, x6, x7] (μ ++ [some (.lst (ps.map Pc.d))]) =
      .nx [some (.m k), some (.d (.int most)), some (.m μ.length), some (.d (.int low')), x4, h, w, b] (μ' ++ [some (.lst ((ps ++ [p]).map Pc.d))]) := by
  have hk := h.lt
  obtain ⟨d1, μ1', m1, r1', e1⟩ := some_spec (l := [.int 0, .int 2, .int 5, .int 9, .int 14]) (h.app [some (.lst (ps.map Pc.d))]) (by simp) (by simp)
  obtain ⟨μ1, rfl, r1⟩ := r1'.app hk
  obtain ⟨a1, rfl, a1l, a1h⟩ : ∃ a, d1 = .int a ∧ 0 ≤ a ∧ a ≤ 14 := by
    simp at m1
    rcases m1 with rfl | rfl | rfl | rfl | rfl <;> exact ⟨_, rfl, by decide, by decide⟩
  have h1 := r1.at_ hk
  have k1 := h1.lt
  obtain ⟨d2, μ2', m2, r2', e2⟩ := some_spec (l := [.str "add", .str "add", .str "add", .str "set"]) (h1.app [some (.lst (ps.map Pc.d))]) (by simp) (by simp)
  obtain ⟨μ2, rfl, r2⟩ := r2'.app k1
  have h2 := r2.at_ k1
  have k2 := h2.lt
  -- the step
  obtain ⟨sb, b, μ3, r3, rfl, hb1, hb2, hb3, hb4, hb5, eb⟩ : ∃ (sb : Bool) (b : Int) (μ3 : Sto), Rolled k μ2 μ3 ∧ d2 = .str (wd sb) ∧ -1000000 ≤ b ∧ b ≤ 1000000 ∧ (sb = false → b ≠ 0) ∧ (sb = false → -most ≤ b ∧ b ≤ most) ∧ (sb = true → -22 ≤ b ∧ b ≤ 41) ∧
      (eIf (eOp dEq (eVar 6) (eStr "add")) (eOp dMul (eCall g__law_some (aCons (eVar 0) (aCons (eLst (aCons (eUn dNeg (eInt 1)) (aCons (eInt 1) (aCons (eInt 1) aNil)))) aNil))) (eOp dAdd (eInt 1) (eCall g__law_roll (aCons (eVar 0) (aCons (eVar 1) aNil))))) (eOp dAdd (eUn dNeg (eInt 22)) (eCall g__law_roll (aCons (eVar 0) (aCons (eInt 64) aNil)))))
        [some (.m k), some (.d (.int most)), some (.m μ.length), some (.d (.int low)), x4, some (.d (.int (low + a1))), some (.d d2), x7] (μ2 ++ [some (.lst (ps.map Pc.d))]) = .ok (.d (.int b)) (μ3 ++ [some (.lst (ps.map Pc.d))]) := by
    have hd : d2 = .str "add" ∨ d2 = .str "set" := by
      simp at m2
      rcases m2 with h | h
      · exact .inl h
      · exact .inr h
    rcases hd with rfl | rfl
    · obtain ⟨d3, μ3', m3, r3', e3⟩ := some_spec (l := [.int (-1), .int 1, .int 1]) (h2.app [some (.lst (ps.map Pc.d))]) (by simp) (by simp)
      obtain ⟨μ3, rfl, r3⟩ := r3'.app k2
      have h3 := r3.at_ k2
      have k3 := h3.lt
      obtain ⟨q, μ4', q1, q2, r4', e4⟩ := roll_spec (many := most) (h3.app [some (.lst (ps.map Pc.d))]) hm (Int.lt_of_le_of_lt hm2 (by decide +kernel))
      obtain ⟨μ4, rfl, r4⟩ := r4'.app k3
      have dq : dEq (.str "add") (.str "add") = some (.bool true) := by kernel_rfl
      have hd3 : d3 = .int (-1) ∨ d3 = .int 1 := by
        simp at m3
        exact m3
      rcases hd3 with rfl | rfl
      · refine ⟨false, -1 * (1 + q), μ4, r3.trans r4, rfl, by omega, by omega, fun _ => by omega, fun _ => ⟨by omega, by omega⟩, fun h => (nomatch h), ?_⟩
        simp [e3, e4, dq, x_mulI (mulOk_l (a := -1) (b := 1 + q) (by decide))]
      · refine ⟨false, 1 * (1 + q), μ4, r3.trans r4, rfl, by omega, by omega, fun _ => by omega, fun _ => ⟨by omega, by omega⟩, fun h => (nomatch h), ?_⟩
        simp [e3, e4, dq, x_mulI (mulOk_l (a := 1) (b := 1 + q) (by decide))]
    · obtain ⟨q, μ4', q1, q2, r4', e4⟩ := roll_spec (many := 64) (h2.app [some (.lst (ps.map Pc.d))]) (by decide) (by decide)
      obtain ⟨μ4, rfl, r4⟩ := r4'.app k2
      have dq : dEq (.str "set") (.str "add") = some (.bool false) := by kernel_rfl
      refine ⟨true, -22 + q, μ4, r4, rfl, by omega, by omega, fun h => (nomatch h), fun h => (nomatch h), fun _ => ⟨by omega, by omega⟩, ?_⟩
      simp [e4, dq]
  have h3 := r3.at_ k2
  have k3 := h3.lt
  have l3 : μ3.length = μ.length := by rw [r3.len, r2.len, r1.len]
  obtain ⟨d5, μ5', m5, r5', e5⟩ := some_spec (l := [.int 0, .int 0, .int 1, .int 4]) (h3.app [some (.lst (ps.map Pc.d ++ [Pc.d ⟨some low, some (low + a1), sb, b⟩]))]) (by simp) (by simp)
  obtain ⟨μ5, rfl, r5⟩ := r5'.app k3
  obtain ⟨a5, rfl, a5l, a5h⟩ : ∃ a, d5 = .int a ∧ 0 ≤ a ∧ a ≤ 4 := by
    simp at m5
    rcases m5 with rfl | rfl | rfl <;> exact ⟨_, rfl, by decide, by decide⟩
  refine ⟨⟨some low, some (low + a1), sb, b⟩, low + a1 + 1 + a5, μ5, some (.d (.int (low + a1))), some (.d (.str (wd sb))), some (.d (.int b)), r.snoc (by omega) (by omega) (by omega) (by omega) hb1 hb2 hb3, ⟨fun i e => by (cases e; omega), fun i e => by (cases e; omega), hb4, hb5⟩, by omega, by omega, ((r1.trans r2).trans r3).trans r5, ?_⟩
  have ml : mlist (μ3 ++ [some (.lst (ps.map Pc.d))]) μ.length = some (ps.map Pc.d) := by rw [← l3]; exact ml_last _ _
  have hL : (ps.map Pc.d).length < LIM := by
    rw [List.length_map]
    exact Nat.lt_of_lt_of_le hlen (by decide)
  have sl : (μ3 ++ [some (Cell.lst (ps.map Pc.d))]).set μ.length (some (Cell.lst (ps.map Pc.d ++ [Pc.d ⟨some low, some (low + a1), sb, b⟩]))) = μ3 ++ [some (Cell.lst (ps.map Pc.d ++ [Pc.d ⟨some low, some (low + a1), sb, b⟩]))] := by rw [← l3]; exact set_last _ _ _
  rw [x_sSeq, x_sAsg]
  simp only [x_eOp, x_eVar, x_eCall, x_aCons, x_aNil, x_eLst, x_eInt, R.bind_ok, asDs_cons, asDs_nil, Option.map_some, ofO_some, List.getElem?_cons_zero, List.getElem?_cons_succ, e1, view_d, Option.bind_some, x_addI, R.bindS_ok, List.set_cons_zero, List.set_cons_succ]
  rw [x_sSeq, x_sAsg]
  simp only [x_eOp, x_eVar, x_eCall, x_aCons, x_aNil, x_eLst, x_eStr, R.bind_ok, asDs_cons, asDs_nil, Option.map_some, ofO_some, List.getElem?_cons_zero, List.getElem?_cons_succ, e2, view_d, Option.bind_some, x_addI, R.bindS_ok, List.set_cons_zero, List.set_cons_succ]
  rw [x_sSeq, x_sAsg, eb]
  have hL2 : ps.length < LIM := by rwa [List.length_map] at hL
  simp [ml, hL2]
  have sl2 := sl
  simp [Pc.d] at sl2 e5 ⊢
  rw [sl2, e5]
  simp
/-- an end taken away -/
def Pc.noLo (p : Pc) : Pc := { p with lo := none }
def Pc.noHi (p : Pc) : Pc := { p with hi := none }
theorem PcOk.noLo {p : Pc} (h : PcOk p) : PcOk p.noLo := ⟨(fun i e => by cases e), h.hi, (fun i j e => by cases e), h.by1, h.by2, h.add⟩
theorem PcOk.noHi {p : Pc} (h : PcOk p) : PcOk p.noHi := ⟨h.lo, (fun i e => by cases e), (fun i j _ e => by cases e), h.by1, h.by2, h.add⟩
theorem PcSm.noLo {m : Int} {p : Pc} (h : PcSm m p) : PcSm m p.noLo := ⟨(fun i e => by cases e), h.hi, h.add, h.set⟩
theorem PcSm.noHi {m : Int} {p : Pc} (h : PcSm m p) : PcSm m p.noHi := ⟨h.lo, (fun i e => by cases e), h.add, h.set⟩
theorem ChOk.first {p : Pc} {r : List Pc} (h : ChOk (p :: r)) : ChOk (p.noLo :: r) :=
  ⟨h.one, h.four, fun q hq => by
    rcases List.mem_cons.mp hq with rfl | hq
    · exact (h.all p List.mem_cons_self).noLo
    · exact h.all q (List.mem_cons_of_mem _ hq), apart_first (p := p) (p' := p.noLo) rfl r h.apart⟩
theorem ChOk.last {p : Pc} {r : List Pc} (h : ChOk (r ++ [p])) : ChOk (r ++ [p.noHi]) :=
  ⟨by simp, by have := h.four; simpa using this, fun q hq => by
    rcases List.mem_append.mp hq with hq | hq
    · exact h.all q (List.mem_append_left _ hq)
    · obtain rfl := List.mem_singleton.mp hq
      exact (h.all p (List.mem_append_right _ List.mem_cons_self)).noHi, apart_last (p := p) (p' := p.noHi) rfl r h.apart⟩
theorem cut_first (p : Pc) : dCut p.d (some 1) none = some (.tuple [oD p.hi, .str (wd p.set), .int p.by_]) := rfl
theorem cut_last (p : Pc) : dCut p.d (some 2) none = some (.tuple [.str (wd p.set), .int p.by_]) := rfl
theorem ix_lo (p : Pc) : dIx p.d (.int 0) = some (oD p.lo) := rfl
theorem dEqI0 (i : Int) : dEq (.int i) (.int 0) = some (.bool (i == 0)) := rfl
theorem first_if {μ : Sto} {k : Nat} {p : Pc} {r : List Pc} {x1 x3 x4 x5 x6 x7 : Option W} (h : DrumAt μ k) (hc : ChOk (p :: r)) : ∃ ps μ', ChOk ps ∧ (∀ m, (∀ q ∈ p :: r, PcSm m q) → ∀ q ∈ ps, PcSm m q) ∧ ps.length = r.length + 1 ∧ Rolled k μ μ' ∧
    sIf (eOp dEq (eCall g__law_roll (aCons (eVar 0) (aCons (eInt 6) aNil))) (eInt 0)) (sSub (eVar 2) (eInt 0) (eOp dAdd (eTup (aCons eNon aNil)) (eSl dCut (eOp dIx (eVar 2) (eInt 0)) (some (eInt 1)) none))) sNil
      [some (.m k), x1, some (.m μ.length), x3, x4, x5, x6, x7] (μ ++ [some (.lst ((p :: r).map Pc.d))]) = .nx [some (.m k), x1, some (.m μ.length), x3, x4, x5, x6, x7] (μ' ++ [some (.lst (ps.map Pc.d))]) := by
  obtain ⟨q, μ1', ql, qh, r1', e1⟩ := roll_spec (many := 6) (h.app [some (.lst ((p :: r).map Pc.d))]) (by decide) (by decide +kernel)
  obtain ⟨μ1, rfl, r1⟩ := r1'.app h.lt
  have l1 := r1.len
  have ml : mlist (μ1 ++ [some (Cell.lst ((p :: r).map Pc.d))]) μ.length = some ((p :: r).map Pc.d) := by rw [← l1]; exact ml_last _ _
  by_cases hq : q = 0
  · subst hq
    refine ⟨p.noLo :: r, μ1, hc.first, fun m hm q hq => ?_, rfl, r1, ?_⟩
    · rcases List.mem_cons.mp hq with rfl | hq
      · exact (hm p List.mem_cons_self).noLo
      · exact hm q (List.mem_cons_of_mem _ hq)
    have sl : (μ1 ++ [some (Cell.lst ((p :: r).map Pc.d))]).set μ.length (some (Cell.lst ((p.noLo :: r).map Pc.d))) = μ1 ++ [some (Cell.lst ((p.noLo :: r).map Pc.d))] := by rw [← l1]; exact set_last _ _ _
    have ta : dAdd (.tuple [.none]) (.tuple [oD p.hi, .str (wd p.set), .int p.by_]) = some p.noLo.d := rfl
    have i0 : ixI ((p :: r).map Pc.d).length 0 = some 0 := by simp [ixI]
    have d0 : dIx (.list ((p :: r).map Pc.d)) (.int 0) = some p.d := by simp [dIx, ixI]
    have s0 : ((p :: r).map Pc.d).set 0 p.noLo.d = (p.noLo :: r).map Pc.d := rfl
    rw [x_sIf]
    simp only [x_eOp, x_eCall, x_aCons, x_aNil, x_eVar, x_eInt, List.getElem?_cons_zero, List.getElem?_cons_succ, R.bind_ok, e1, view_d, Option.bind_some, Option.map_some, ofO_some, dEqI0, RS.test_ok, beq_self_eq_true, if_true, x_sSub, x_eTup, x_eNon, asDs_cons, asDs_nil, x_eSl, x_view_m, ml, d0, x_part1, x_part0, cut_first, ta, R.bindS_ok, i0, s0, sl]
  · refine ⟨p :: r, μ1, hc, fun m hm => hm, rfl, r1, ?_⟩
    have hq2 : (q == 0) = false := by simpa using hq
    rw [x_sIf]
    simp only [x_eOp, x_eCall, x_aCons, x_aNil, x_eVar, x_eInt, List.getElem?_cons_zero, List.getElem?_cons_succ, R.bind_ok, e1, view_d, Option.bind_some, Option.map_some, ofO_some, dEqI0, RS.test_ok, hq2, x_sNil]
    rfl
theorem last_if {μ : Sto} {k : Nat} {p : Pc} {r : List Pc} {x1 x3 x4 x5 x6 x7 : Option W} (h : DrumAt μ k) (hc : ChOk (r ++ [p])) : ∃ ps μ', ChOk ps ∧ (∀ m, (∀ q ∈ r ++ [p], PcSm m q) → ∀ q ∈ ps, PcSm m q) ∧ ps.length = r.length + 1 ∧ Rolled k μ μ' ∧
    sIf (eOp dEq (eCall g__law_roll (aCons (eVar 0) (aCons (eInt 6) aNil))) (eInt 0)) (sSub (eVar 2) (eUn dNeg (eInt 1)) (eOp dAdd (eTup (aCons (eOp dIx (eOp dIx (eVar 2) (eUn dNeg (eInt 1))) (eInt 0)) (aCons eNon aNil))) (eSl dCut (eOp dIx (eVar 2) (eUn dNeg (eInt 1))) (some (eInt 2)) none))) sNil
      [some (.m k), x1, some (.m μ.length), x3, x4, x5, x6, x7] (μ ++ [some (.lst ((r ++ [p]).map Pc.d))]) = .nx [some (.m k), x1, some (.m μ.length), x3, x4, x5, x6, x7] (μ' ++ [some (.lst (ps.map Pc.d))]) := by
  obtain ⟨q, μ1', ql, qh, r1', e1⟩ := roll_spec (many := 6) (h.app [some (.lst ((r ++ [p]).map Pc.d))]) (by decide) (by decide +kernel)
  obtain ⟨μ1, rfl, r1⟩ := r1'.app h.lt
  have l1 := r1.len
  have ml : mlist (μ1 ++ [some (Cell.lst ((r ++ [p]).map Pc.d))]) μ.length = some ((r ++ [p]).map Pc.d) := by rw [← l1]; exact ml_last _ _
  by_cases hq : q = 0
  · subst hq
    refine ⟨r ++ [p.noHi], μ1, hc.last, fun m hm q hq => ?_, by simp, r1, ?_⟩
    · rcases List.mem_append.mp hq with hq | hq
      · exact hm q (List.mem_append_left _ hq)
      · rw [List.mem_singleton.mp hq]
        exact (hm p (by simp)).noHi
    have sl : (μ1 ++ [some (Cell.lst ((r ++ [p]).map Pc.d))]).set μ.length (some (Cell.lst ((r ++ [p.noHi]).map Pc.d))) = μ1 ++ [some (Cell.lst ((r ++ [p.noHi]).map Pc.d))] := by rw [← l1]; exact set_last _ _ _
    have ta : dAdd (.tuple [oD p.lo, .none]) (.tuple [.str (wd p.set), .int p.by_]) = some p.noHi.d := rfl
    have i0 : ixI ((r ++ [p]).map Pc.d).length (-1) = some r.length := by rw [List.length_map, List.length_append]; exact ixI_last _
    have d0 : dIx (.list ((r ++ [p]).map Pc.d)) (.int (-1)) = some p.d := by rw [List.map_append]; exact ixL _ _
    have s0 : ((r ++ [p]).map Pc.d).set r.length p.noHi.d = (r ++ [p.noHi]).map Pc.d := by simp
    rw [x_sIf]
    simp only [x_eOp, x_eUn, x_negI, x_eCall, x_aCons, x_aNil, x_eVar, x_eInt, List.getElem?_cons_zero, List.getElem?_cons_succ, R.bind_ok, e1, view_d, Option.bind_some, Option.map_some, ofO_some, dEqI0, RS.test_ok, beq_self_eq_true, if_true, x_sSub, x_eTup, x_eNon, asDs_cons, asDs_nil, x_eSl, x_view_m, ml, d0, ix_lo, x_part1, x_part0, cut_last, ta, R.bindS_ok, i0, s0, sl]
  · refine ⟨r ++ [p], μ1, hc, fun m hm => hm, by simp, r1, ?_⟩
    have hq2 : (q == 0) = false := by simpa using hq
    rw [x_sIf]
    simp only [x_eOp, x_eCall, x_aCons, x_aNil, x_eVar, x_eInt, List.getElem?_cons_zero, List.getElem?_cons_succ, R.bind_ok, e1, view_d, Option.bind_some, Option.map_some, ofO_some, dEqI0, RS.test_ok, hq2, x_sNil]
    rfl
theorem change_spec {μ : Sto} {k : Nat} {most : Int} (h : DrumAt μ k) (hm : 0 < most) (hm2 : most ≤ 1000) :
    ∃ ps μ', ChOk ps ∧ (∀ p ∈ ps, PcSm most p) ∧ ps.length ≤ 3 ∧ Rolled k μ μ' ∧ g__law_change [.m k, .d (.int most)] μ = .ok (.d (.tuple (ps.map Pc.d))) μ' := by
  have hk := h.lt
  obtain ⟨q1, μ1', q1l, q1h, r1', e1⟩ := roll_spec (many := 8) (h.app [some (.lst [])]) (by decide) (by decide)
  obtain ⟨μ1, rfl, r1⟩ := r1'.app hk
  have h1 := r1.at_ hk
  have k1 := h1.lt
  obtain ⟨q2, μ2', q2l, q2h, r2', e2⟩ := roll_spec (many := 3) (h1.app [some (.lst [])]) (by decide) (by decide)
  obtain ⟨μ2, rfl, r2⟩ := r2'.app k1
  have h2 := r2.at_ k1
  have k2 := h2.lt
  have l2 : μ2.length = μ.length := by rw [r2.len, r1.len]
  rw [show g__law_change = fnOf 2 8 F__law_change from rfl, fnOf2]
  unfold F__law_change
  rw [x_sSeq, x_sPar]
  simp only [List.map_cons, List.map_nil, List.length_cons, List.length_nil, x_eLstM, x_aNil, R.bind_ok, asDs_nil, R.bindS_ok, x_eOp, x_eUn, x_eInt, view_d, Option.bind_some, Option.map_some, ofO_some, x_negI, x_eCall, x_aCons, x_eVar,
    List.replicate, Nat.reduceSub, List.cons_append, List.nil_append, List.getElem?_cons_zero, List.getElem?_cons_succ, e1, x_addI, List.set_cons_zero, List.set_cons_succ]
  rw [x_sSeq, x_sFor, x_iRange1]
  simp only [x_eOp, x_eInt, x_eCall, x_aCons, x_aNil, x_eVar, List.getElem?_cons_zero, R.bind_ok, view_d, Option.bind_some, Option.map_some, ofO_some, e2, x_addI]
  have hr : -(LIM : Int) ≤ 1 + q2 ∧ 1 + q2 ≤ LIM := by unfold LIM; omega
  rw [if_pos hr, R.bindS_ok]
  obtain ⟨ρ3, μ3, e3, ps, low, μ4, x4, x5, x6, x7, rfl, rfl, hlen, hrow, hsm, hlo, hhi, r4⟩ := forL_count (t := tName 4) (B := (sSeq (sAsg 5 (eOp dAdd (eVar 3) (eCall g__law_some (aCons (eVar 0) (aCons (eLst (aCons (eInt 0) (aCons (eInt 2) (aCons (eInt 5) (aCons (eInt 9) (aCons (eInt 14) aNil)))))) aNil)))))
    (sSeq (sAsg 6 (eCall g__law_some (aCons (eVar 0) (aCons (eLst (aCons (eStr "add") (aCons (eStr "add") (aCons (eStr "add") (aCons (eStr "set") aNil))))) aNil))))
    (sSeq (sAsg 7 (eIf (eOp dEq (eVar 6) (eStr "add")) (eOp dMul (eCall g__law_some (aCons (eVar 0) (aCons (eLst (aCons (eUn dNeg (eInt 1)) (aCons (eInt 1) (aCons (eInt 1) aNil)))) aNil))) (eOp dAdd (eInt 1) (eCall g__law_roll (aCons (eVar 0) (aCons (eVar 1) aNil))))) (eOp dAdd (eUn dNeg (eInt 22)) (eCall g__law_roll (aCons (eVar 0) (aCons (eInt 64) aNil))))))
    (sSeq (sDrop (eApp (eVar 2) (eTup (aCons (eVar 3) (aCons (eVar 5) (aCons (eVar 6) (aCons (eVar 7) aNil)))))))
    (sAsg 3 (eOp dAdd (eOp dAdd (eVar 5) (eInt 1)) (eCall g__law_some (aCons (eVar 0) (aCons (eLst (aCons (eInt 0) (aCons (eInt 0) (aCons (eInt 1) (aCons (eInt 4) aNil)))))  aNil)))))))))) (fun i ρ ν => ∃ ps low μ4 x4 x5 x6 x7, ρ = [some (.m k), some (.d (.int most)), some (.m μ.length), some (.d (.int low)), x4, x5, x6, x7] ∧ ν = μ4 ++ [some (.lst (ps.map Pc.d))] ∧
      ps.length = i ∧ Row ps low ∧ (∀ p ∈ ps, PcSm most p) ∧ -20 ≤ low ∧ low ≤ -12 + 19 * i ∧ Rolled k μ μ4) 3 (rangeD 0 (1 + q2)) 0 [some (.m k), some (.d (.int most)), some (.m μ.length), some (.d (.int (-20 + q1))), none, none, none, none] (μ2 ++ [some (.lst [])]) (by rw [x_rangeD_len]; omega)
    ⟨[], -20 + q1, μ2, _, _, _, _, rfl, rfl, rfl, ⟨fun p hp => (by cases hp), True.intro, fun p hp => (by cases hp)⟩, fun p hp => (by cases hp), by omega, by omega, r1.trans r2⟩ (by
      rintro i d ρ ν hi - ⟨ps, low, μ4, x4, x5, x6, x7, rfl, rfl, hl, hrow, hsm, hlo, hhi, r4⟩
      have h4 := r4.at_ hk
      have l4 := r4.len
      obtain ⟨p, low', μ5, y5, y6, y7, hrow', hp', g1, g2, r5, e5⟩ := change_turn (x4 := some (.d d)) (x5 := x5) (x6 := x6) (x7 := x7) h4 hm hm2 (by omega) hrow hlo (by omega) (by omega) .none
      rw [l4] at e5
      exact ⟨_, rfl, _, _, e5, ps ++ [p], low', μ5, _, _, _, _, rfl, rfl, by simp [hl], hrow', (fun q hq => by
        rcases List.mem_append.mp hq with hq | hq
        · exact hsm q hq
        · rw [List.mem_singleton.mp hq]; exact hp'), by omega, by push_cast; omega, r4.trans r5⟩)
  rw [e3]
  dsimp only
  have hps : ps.length = (1 + q2).toNat := by rw [hlen, x_rangeD_len]; omega
  have h4 := r4.at_ hk
  have hch : ChOk ps := ⟨by omega, by omega, fun p hp => (hrow.all p hp).1, hrow.apart⟩
  obtain ⟨p, r, rfl⟩ : ∃ p r, ps = p :: r := by
    cases ps with
    | nil => have := hch.one; simp at this
    | cons p r => exact ⟨p, r, rfl⟩
  obtain ⟨ps5, μ5, hc5, hs5, hl5, r5, e5⟩ := first_if (x1 := some (.d (.int most))) (x3 := some (.d (.int low))) (x4 := x4) (x5 := x5) (x6 := x6) (x7 := x7) h4 hch
  have l4 := r4.len
  rw [l4] at e5
  rw [x_sSeq, e5]
  dsimp only
  have h5 := r5.at_ h4.lt
  obtain ⟨r', p', rfl⟩ : ∃ r' p', ps5 = r' ++ [p'] := by
    have hne : ps5 ≠ [] := fun e => by rw [e] at hl5; cases hl5
    exact ⟨ps5.dropLast, ps5.getLast hne, (List.dropLast_concat_getLast hne).symm⟩
  obtain ⟨ps6, μ6, hc6, hs6, hl6, r6, e6⟩ := last_if (x1 := some (.d (.int most))) (x3 := some (.d (.int low))) (x4 := x4) (x5 := x5) (x6 := x6) (x7 := x7) h5 hc5
  rw [r5.len, l4] at e6
  rw [x_sSeq, e6]
  dsimp only
  have l6 : μ6.length = μ.length := by rw [r6.len, r5.len, l4]
  have ml : mlist (μ6 ++ [some (Cell.lst (ps6.map Pc.d))]) μ.length = some (ps6.map Pc.d) := by rw [← l6]; exact ml_last _ _
  refine ⟨ps6, μ6, hc6, hs6 _ (hs5 _ hsm), ?_, (r4.trans r5).trans r6, ?_⟩
  · simp at hl5 hps
    omega
  · rw [← l6] at ml
    simp [ml, bTup, fin, ← l6]
end Pure

set_option linter.all false
set_option Elab.async false
set_option maxRecDepth 100000
set_option maxHeartbeats 1000000
/-! The plain law: what the checks of a change answer, of any data (the first part of PureF). -/
namespace Pure
open PySem Mi Mir
def wholeD (d : D) (lo hi : Int) : Bool := match d with
  | .int v => decide (lo ≤ v) && decide (v ≤ hi)
  | _ => false
theorem whole_spec (d : D) (lo hi : Int) (μ : Sto) : g_is_whole [.d d, .d (.int lo), .d (.int hi)] μ = .ok (.d (.bool (wholeD d lo hi))) μ := by
  rw [show g_is_whole = fnOf 3 3 F_is_whole from rfl, fnOf3]
  have e : ∀ b : Bool, fin μ.length (.rt (.d (.bool b)) μ) = .ok (.d (.bool b)) μ := fun b => x_fin _ _ _ rfl
  cases d <;> simp [F_is_whole, isTy, wholeD, e]
  rename_i v
  by_cases h1 : lo ≤ v <;> simp [h1, e]
def isNonD : D → Bool
  | .none => true
  | _ => false
theorem isNonW_d (d : D) : isNonW (.d d) = isNonD d := by cases d <;> rfl
def endD (d : D) : Bool := isNonD d || wholeD d (-far) far
theorem end_spec (d : D) (μ : Sto) : g_is_end [.d d] μ = .ok (.d (.bool (endD d))) μ := by
  rw [show g_is_end = fnOf 1 1 F_is_end from rfl, fnOf1]
  have e : ∀ b : Bool, fin μ.length (.rt (.d (.bool b)) μ) = .ok (.d (.bool b)) μ := fun b => x_fin _ _ _ rfl
  have w := whole_spec d (-far) far μ
  unfold far at w
  cases h : isNonD d <;> simp [F_is_end, isNonW_d, endD, e, h, w, far]
def leD : D → D → Bool
  | .int a, .int b => decide (a ≤ b)
  | _, _ => false
def endsD (l h : D) : Bool := endD l && (endD h && (isNonD l || (isNonD h || leD l h)))
theorem end_int {d : D} (h : endD d = true) (n : isNonD d = false) : ∃ i, d = .int i ∧ -far ≤ i ∧ i ≤ far := by
  unfold endD at h
  rw [n] at h
  cases d <;> simp [wholeD] at h
  exact ⟨_, rfl, h.1, h.2⟩
theorem ends_spec (l h : D) (μ : Sto) : g_are_ends [.d l, .d h] μ = .ok (.d (.bool (endsD l h))) μ := by
  rw [show g_are_ends = fnOf 2 2 F_are_ends from rfl, fnOf2]
  have e : ∀ b : Bool, fin μ.length (.rt (.d (.bool b)) μ) = .ok (.d (.bool b)) μ := fun b => x_fin _ _ _ rfl
  cases h1 : endD l with
  | false => simp [F_are_ends, end_spec, h1, endsD, e]
  | true =>
    cases h2 : endD h with
    | false => simp [F_are_ends, end_spec, h1, h2, endsD, e]
    | true =>
      cases h3 : isNonD l with
      | true => simp [F_are_ends, end_spec, h1, h2, isNonW_d, h3, endsD, e]
      | false =>
        cases h4 : isNonD h with
        | true => simp [F_are_ends, end_spec, h1, h2, isNonW_d, h3, h4, endsD, e]
        | false =>
          obtain ⟨i, rfl, _⟩ := end_int h1 h3
          obtain ⟨j, rfl, _⟩ := end_int h2 h4
          simp [F_are_ends, end_spec, h1, h2, endsD, leD, e, isNonD]
def nzD : D → Bool
  | .int v => !(v == 0)
  | _ => false
def pieceD : D → Bool
  | .tuple [l, h, .str w, b] => endsD l h && (wholeD b (-far) far && (w == "set" || (w == "add" && nzD b)))
  | _ => false
theorem whole_int {d : D} {lo hi : Int} (h : wholeD d lo hi = true) : ∃ i, d = .int i ∧ lo ≤ i ∧ i ≤ hi := by
  cases d <;> simp [wholeD] at h
  exact ⟨_, rfl, h.1, h.2⟩
theorem sh_set : SeqAt.shaped (.str "set") = true := by kernel_rfl
theorem sh_add : SeqAt.shaped (.str "add") = true := by kernel_rfl
theorem ix4_0 (a : D) (l : List D) : dIx (.tuple (a :: l)) (.int 0) = some a := by simp [dIx, ixI]
theorem ixN (l : List D) (n : Nat) (h : n < l.length) : dIx (.tuple l) (.int (n : Int)) = some l[n] := by simp [dIx, ixI, h]
theorem piece_spec (d : D) (hs : SeqAt.shaped d = true) (μ : Sto) : g_is_piece [.d d] μ = .ok (.d (.bool (pieceD d))) μ := by
  rw [show g_is_piece = fnOf 1 1 F_is_piece from rfl, fnOf1]
  have e : ∀ b : Bool, fin μ.length (.rt (.d (.bool b)) μ) = .ok (.d (.bool b)) μ := fun b => x_fin _ _ _ rfl
  cases d with
  | tuple l =>
    match l, hs with
    | [], _ => simp [F_is_piece, isTy, bLen, dNeI, pieceD, e]
    | [_], _ => simp [F_is_piece, isTy, bLen, dNeI, pieceD, e]
    | [_, _], _ => simp [F_is_piece, isTy, bLen, dNeI, pieceD, e]
    | [_, _, _], _ => simp [F_is_piece, isTy, bLen, dNeI, pieceD, e]
    | a :: b :: c :: f :: g :: r, _ =>
      have hl : ((r.length : Int) + 1 + 1 + 1 + 1 + 1 == 4) = false := by
        rw [beq_eq_false_iff_ne]; omega
      simp [F_is_piece, isTy, bLen, dNeI, pieceD, e, hl]
    | [a, b, c, f], hs =>
      have i0 : dIx (.tuple [a, b, c, f]) (.int 0) = some a := rfl
      have i1 : dIx (.tuple [a, b, c, f]) (.int 1) = some b := rfl
      have i2 : dIx (.tuple [a, b, c, f]) (.int 2) = some c := rfl
      have i3 : dIx (.tuple [a, b, c, f]) (.int 3) = some f := rfl
      have w := whole_spec f (-far) far μ
      unfold far at w
      cases h1 : endsD a b with
      | false => cases c <;> simp [F_is_piece, isTy, bLen, dNeI, pieceD, e, i0, i1, ends_spec, h1]
      | true =>
        cases c with
        | str x =>
          have hx := shaped_tup hs (.str x) (by simp)
          cases h2 : wholeD f (-far) far with
          | false =>
            have h2' := h2
            unfold far at h2'
            simp [F_is_piece, isTy, bLen, dNeI, pieceD, e, i0, i1, i2, i3, ends_spec, h1, w, h2, h2']
          | true =>
            have h2' := h2
            unfold far at h2'
            obtain ⟨v, rfl, _⟩ := whole_int h2
            cases h3 : (x == ("set" : Str)) <;> cases h4 : (x == ("add" : Str)) <;> simp [F_is_piece, isTy, bLen, dNeI, pieceD, e, i0, i1, i2, i3, ends_spec, h1, w, h2, h2', dEqS hx sh_set, dEqS hx sh_add, h3, h4, nzD]
        | _ => simp [F_is_piece, isTy, bLen, dNeI, pieceD, e, i0, i1, i2, ends_spec, h1]
  | _ => simp [F_is_piece, isTy, pieceD, e]
def ltD : D → D → Bool
  | .int a, .int b => decide (a < b)
  | _, _ => false
def apD : D → D → Bool
  | .tuple [_, h, _, _], .tuple [l, _, _, _] => !isNonD h && (!isNonD l && ltD h l)
  | _, _ => false
theorem piece_form {d : D} (h : pieceD d = true) : ∃ a b w c, d = .tuple [a, b, .str w, c] ∧ endsD a b = true ∧ wholeD c (-far) far = true ∧ (w = "set" ∨ w = "add" ∧ nzD c = true) := by
  unfold pieceD at h
  split at h
  · rename_i a b w c
    simp only [Bool.and_eq_true, Bool.or_eq_true, beq_iff_eq] at h
    exact ⟨a, b, w, c, rfl, h.1, h.2.1, h.2.2⟩
  · cases h
theorem ends_parts {a b : D} (h : endsD a b = true) : endD a = true ∧ endD b = true := by
  unfold endsD at h
  simp only [Bool.and_eq_true] at h
  exact ⟨h.1, h.2.1⟩
theorem apart_spec {p q : D} (hp : pieceD p = true) (hq : pieceD q = true) (μ : Sto) : g_are_apart [.d p, .d q] μ = .ok (.d (.bool (apD p q))) μ := by
  obtain ⟨a, b, w, c, rfl, he, _⟩ := piece_form hp
  obtain ⟨a', b', w', c', rfl, he', _⟩ := piece_form hq
  rw [show g_are_apart = fnOf 2 2 F_are_apart from rfl, fnOf2]
  have e : ∀ b : Bool, fin μ.length (.rt (.d (.bool b)) μ) = .ok (.d (.bool b)) μ := fun b => x_fin _ _ _ rfl
  have i1 : dIx (.tuple [a, b, .str w, c]) (.int 1) = some b := rfl
  have i0 : dIx (.tuple [a', b', .str w', c']) (.int 0) = some a' := rfl
  cases h1 : isNonD b with
  | true => simp [F_are_apart, i1, isNonW_d, h1, e, apD]
  | false =>
    cases h2 : isNonD a' with
    | true => simp [F_are_apart, i1, i0, isNonW_d, h1, h2, e, apD]
    | false =>
      obtain ⟨i, rfl, _⟩ := end_int (ends_parts he).2 h1
      obtain ⟨j, rfl, _⟩ := end_int (ends_parts he').1 h2
      simp [F_are_apart, i1, i0, e, apD, ltD, isNonD]
def apAll : List D → Bool
  | p :: q :: r => apD p q && apAll (q :: r)
  | _ => true
def fitsCh : D → Bool
  | .tuple l => (decide (1 ≤ l.length) && decide (l.length ≤ 4)) && (l.all pieceD && apAll l)
  | _ => false
theorem allB_map {α : Type} (p : α → Bool) : ∀ l : List α, allB (l.map fun d => PyData.bool (p d)) = some (l.all p)
  | [] => rfl
  | d :: r => by
    rw [List.map_cons, allB, allB_map p r]
    rfl
theorem tru (b : Bool) : (b && true) = b := by cases b <;> rfl
theorem fits_change_spec (d : D) (hs : SeqAt.shaped d = true) (μ : Sto) : g_fits_change [.d d] μ = .ok (.d (.bool (fitsCh d))) μ := by
  rw [show g_fits_change = fnOf 1 3 F_fits_change from rfl, fnOf1]
  have e : ∀ b : Bool, fin μ.length (.rt (.d (.bool b)) μ) = .ok (.d (.bool b)) μ := fun b => x_fin _ _ _ rfl
  cases d with
  | tuple l =>
    have hl : ∀ x ∈ l, SeqAt.shaped x = true := shaped_tup hs
    have lc : ∀ ρ : Mi.Env, ρ.length = 3 → lcL (tName 2) eYes (eCall g_is_piece (aCons (eVar 2) aNil)) ρ l [] μ = .ok (.d (.list (l.map fun d => .bool (pieceD d)))) μ := fun ρ hρ => by
      rw [lc_map (fun d => .bool (pieceD d)) l [] fun d hd => ⟨ρ.set 2 (some (.d d)), rfl, rfl, ?_⟩]
      · rfl
      · simp [hρ, piece_spec d (hl d hd)]
    by_cases h1 : 1 ≤ l.length
    · by_cases h4 : l.length ≤ 4
      · have b1 : (1 : Int) ≤ l.length := by omega
        have b4 : (l.length : Int) ≤ 4 := by omega
        cases hp : l.all pieceD with
        | false =>
          simp [F_fits_change, isTy, bLen, b1, b4, items, lc, wipeE, bAll, allB_map pieceD, hp, e, fitsCh]
        | true =>
          have hp' : ∀ x ∈ l, pieceD x = true := List.all_eq_true.mp hp
          match l, h1, h4, hp', hl, hp with
          | [a], _, _, hp', hl', hp =>
            have pa := hp' a (by simp)
            have qa := piece_spec a (hl' a (by simp)) μ
            rw [pa] at qa
            simp [F_fits_change, isTy, bLen, items, qa, wipeE, bAll, hp, e, fitsCh, apAll, rangeD, LIM, lcL, allB, pa]
          | [a, b], _, _, hp', hl', hp =>
            have pa := hp' a (by simp)
            have qa := piece_spec a (hl' a (by simp)) μ
            rw [pa] at qa
            have pb := hp' b (by simp)
            have qb := piece_spec b (hl' b (by simp)) μ
            rw [pb] at qb
            have r1 : rangeD 0 1 = [.int 0] := rfl
            have i0 : dIx (.tuple [a, b]) (.int 0) = some a := rfl
            have i1 : dIx (.tuple [a, b]) (.int 1) = some b := rfl
            simp [F_fits_change, isTy, bLen, items, qa, qb, wipeE, bAll, e, fitsCh, apAll, LIM, r1, lcL, allB, i0, i1, apart_spec pa pb, pa, pb]
          | [a, b, c], _, _, hp', hl', hp =>
            have pa := hp' a (by simp)
            have qa := piece_spec a (hl' a (by simp)) μ
            rw [pa] at qa
            have pb := hp' b (by simp)
            have qb := piece_spec b (hl' b (by simp)) μ
            rw [pb] at qb
            have pc := hp' c (by simp)
            have qc := piece_spec c (hl' c (by simp)) μ
            rw [pc] at qc
            have r1 : rangeD 0 2 = [.int 0, .int 1] := rfl
            have i0 : dIx (.tuple [a, b, c]) (.int 0) = some a := rfl
            have i1 : dIx (.tuple [a, b, c]) (.int 1) = some b := rfl
            have i2 : dIx (.tuple [a, b, c]) (.int 2) = some c := rfl
            simp [F_fits_change, isTy, bLen, items, qa, qb, qc, wipeE, bAll, e, fitsCh, apAll, LIM, r1, lcL, allB, i0, i1, i2, apart_spec pa pb, apart_spec pb pc, pa, pb, pc]
          | [a, b, c, d], _, _, hp', hl', hp =>
            have pa := hp' a (by simp)
            have qa := piece_spec a (hl' a (by simp)) μ
            rw [pa] at qa
            have pb := hp' b (by simp)
            have qb := piece_spec b (hl' b (by simp)) μ
            rw [pb] at qb
            have pc := hp' c (by simp)
            have qc := piece_spec c (hl' c (by simp)) μ
            rw [pc] at qc
            have pd := hp' d (by simp)
            have qd := piece_spec d (hl' d (by simp)) μ
            rw [pd] at qd
            have r1 : rangeD 0 3 = [.int 0, .int 1, .int 2] := rfl
            have i0 : dIx (.tuple [a, b, c, d]) (.int 0) = some a := rfl
            have i1 : dIx (.tuple [a, b, c, d]) (.int 1) = some b := rfl
            have i2 : dIx (.tuple [a, b, c, d]) (.int 2) = some c := rfl
            have i3 : dIx (.tuple [a, b, c, d]) (.int 3) = some d := rfl
            simp [F_fits_change, isTy, bLen, items, qa, qb, qc, qd, wipeE, bAll, e, fitsCh, apAll, LIM, r1, lcL, allB, i0, i1, i2, i3, apart_spec pa pb, apart_spec pb pc, apart_spec pc pd, pa, pb, pc, pd]
      · have b1 : (1 : Int) ≤ l.length := by omega
        have b4 : ¬ (l.length : Int) ≤ 4 := by omega
        simp [F_fits_change, isTy, bLen, b1, b4, e, fitsCh, h4]
    · have h0 : l = [] := List.length_eq_zero_iff.mp (by omega)
      subst h0
      simp [F_fits_change, isTy, bLen, e, fitsCh]
  | _ => simp [F_fits_change, isTy, fitsCh, e]
theorem eqvS (x y : Str) : PyData.eqv (.str x) (.str y) = (x == y) := rfl
end Pure

set_option linter.all false
set_option Elab.async false
set_option maxRecDepth 100000
set_option maxHeartbeats 1000000
/-! The plain law: changes that fit (the part of PureC without statements). -/
namespace Pure
open PySem Mi Mir
theorem endD_o {o : Option Int} (h : EndOk o) : endD (oD o) = true := by
  cases o with
  | none => rfl
  | some i =>
    obtain ⟨h1, h2⟩ := h i rfl
    simp [endD, isNonD, wholeD, h1, h2]
theorem endsD_o {a b : Option Int} (ha : EndOk a) (hb : EndOk b) (h : ∀ i j, a = some i → b = some j → i ≤ j) : endsD (oD a) (oD b) = true := by
  unfold endsD
  rw [endD_o ha, endD_o hb]
  cases a with
  | none => rfl
  | some i => cases b with
    | none => rfl
    | some j => simp [isNonD, leD, h i j rfl rfl]
theorem pieceD_ok {p : Pc} (h : PcOk p) : pieceD p.d = true := by
  unfold Pc.d pieceD
  dsimp only
  rw [endsD_o h.lo h.hi h.le]
  cases hs : p.set with
  | true => simp [wholeD, h.by1, h.by2, wd]
  | false => simp [wholeD, h.by1, h.by2, wd, nzD, h.add hs]
theorem apAll_ok : ∀ {ps : List Pc}, Apart ps → apAll (ps.map Pc.d) = true
  | [], _ => rfl
  | [_], _ => rfl
  | p :: q :: r, h => by
    obtain ⟨a, b, h1, h2, h3⟩ := h.1
    have e := apAll_ok h.2
    show (apD p.d q.d && apAll ((q :: r).map Pc.d)) = true
    rw [e]
    unfold Pc.d apD
    rw [h1, h2]
    simp [isNonD, ltD, h3]
theorem fitsCh_ok {ps : List Pc} (h : ChOk ps) : fitsCh (.tuple (ps.map Pc.d)) = true := by
  unfold fitsCh
  have h1 := h.one
  have h4 := h.four
  dsimp only
  rw [apAll_ok h.apart]
  have hp : (ps.map Pc.d).all pieceD = true := by
    rw [List.all_eq_true]
    intro x hx
    obtain ⟨p, hp, rfl⟩ := List.mem_map.mp hx
    exact pieceD_ok (h.all p hp)
  rw [hp]
  simp [h1, h4]
/-! shapes -/
theorem canAll_of {l : List D} (h : ∀ x ∈ l, x.canLay0 = true) : PyData.canLayAll0 l = true := by
  induction l with
  | nil => rfl
  | cons x r ih =>
    rw [PyData.canLayAll0, h x List.mem_cons_self, ih fun y hy => h y (List.mem_cons_of_mem _ hy)]
    rfl
theorem depthAll_of {l : List D} {n : Nat} (h : ∀ x ∈ l, x.depth ≤ n) : PyData.depthAll l ≤ n := by
  induction l with
  | nil => rw [PyData.depthAll]; exact Nat.zero_le _
  | cons x r ih =>
    rw [PyData.depthAll]
    exact Nat.max_le.mpr ⟨h x List.mem_cons_self, ih fun y hy => h y (List.mem_cons_of_mem _ hy)⟩
structure Sh (n : Nat) (d : D) : Prop where
  can : d.canLay0 = true
  dep : d.depth ≤ n
theorem Sh.shaped {n : Nat} {d : D} (h : Sh n d) (hn : n ≤ 64) : SeqAt.shaped d = true := shaped_iff.mpr ⟨h.can, Nat.le_trans h.dep hn⟩
theorem Sh.tup {n : Nat} {l : List D} (h : ∀ x ∈ l, Sh n x) : Sh (n + 1) (.tuple l) := by
  refine ⟨?_, ?_⟩
  · rw [PyData.canLay0]; exact canAll_of fun x hx => (h x hx).can
  · rw [PyData.depth]; have := depthAll_of fun x hx => (h x hx).dep; omega
theorem Sh.lst {n : Nat} {l : List D} (h : ∀ x ∈ l, Sh n x) : Sh (n + 1) (.list l) := by
  refine ⟨?_, ?_⟩
  · rw [PyData.canLay0]; exact canAll_of fun x hx => (h x hx).can
  · rw [PyData.depth]; have := depthAll_of fun x hx => (h x hx).dep; omega
theorem Sh.mono {m n : Nat} {d : D} (h : Sh m d) (hn : m ≤ n) : Sh n d := ⟨h.can, Nat.le_trans h.dep hn⟩
theorem sh_int (i : Int) : Sh 0 (.int i) := ⟨rfl, Nat.le_refl _⟩
theorem sh_none : Sh 0 .none := ⟨rfl, Nat.le_refl _⟩
theorem sh_o (o : Option Int) : Sh 0 (oD o) := by
  cases o with
  | none => exact sh_none
  | some i => exact sh_int i
theorem sh_str {x : Str} (h : SeqAt.shaped (.str x) = true) : Sh 0 (.str x) := ⟨(shaped_iff.mp h).1, Nat.le_refl _⟩
theorem sh_wd (b : Bool) : Sh 0 (.str (wd b)) := by
  cases b
  · exact sh_str sh_add
  · exact sh_str sh_set
theorem sh_up : SeqAt.shaped (.str "up") = true := by kernel_rfl
theorem sh_down : SeqAt.shaped (.str "down") = true := by kernel_rfl
theorem sh_first : SeqAt.shaped (.str "first") = true := by kernel_rfl
theorem mem4 {P : D → Prop} {a b c d : D} (ha : P a) (hb : P b) (hc : P c) (hd : P d) : ∀ x ∈ [a, b, c, d], P x := by
  intro x hx
  simp at hx
  rcases hx with rfl | rfl | rfl | rfl <;> assumption
theorem mem3' {P : D → Prop} {a b c : D} (ha : P a) (hb : P b) (hc : P c) : ∀ x ∈ [a, b, c], P x := by
  intro x hx
  simp at hx
  rcases hx with rfl | rfl | rfl <;> assumption
theorem mem2' {P : D → Prop} {a b : D} (ha : P a) (hb : P b) : ∀ x ∈ [a, b], P x := by
  intro x hx
  simp at hx
  rcases hx with rfl | rfl <;> assumption
theorem mem1' {P : D → Prop} {a : D} (ha : P a) : ∀ x ∈ [a], P x := by
  intro x hx
  simp at hx
  rw [hx]
  exact ha
theorem sh_pc (p : Pc) : Sh 1 p.d := Sh.tup (mem4 (sh_o _) (sh_o _) (sh_wd _) (sh_int _))
theorem sh_ps (ps : List Pc) : Sh 2 (.tuple (ps.map Pc.d)) := Sh.tup fun x hx => by
  obtain ⟨p, _, rfl⟩ := List.mem_map.mp hx
  exact sh_pc p
theorem ix2d (p : Pc) : dIx p.d (.int 2) = some (.str (wd p.set)) := rfl
theorem ix3d (p : Pc) : dIx p.d (.int 3) = some (.int p.by_) := rfl
theorem cut3d (p : Pc) : dCut p.d none (some 3) = some (.tuple [oD p.lo, oD p.hi, .str (wd p.set)]) := rfl
theorem eq_add (b : Bool) : dEq (.str (wd b)) (.str "add") = some (.bool (!b)) := by
  cases b
  · kernel_rfl
  · kernel_rfl
end Pure

set_option linter.all false
set_option Elab.async false
set_option maxRecDepth 100000
set_option maxHeartbeats 1000000
/-! The plain law: pieces that hold a worth, and what they make of it. -/
namespace Pure
open PySem Mi Mir
def leO : Option Int → Int → Bool
  | none, _ => true
  | some a, w => decide (a ≤ w)
def geO : Option Int → Int → Bool
  | none, _ => true
  | some a, w => decide (w ≤ a)
def hasB (lo hi : Option Int) (w : Int) : Bool := leO lo w && geO hi w
theorem ixc0 (a : D) (r : List D) : dIx (.tuple (a :: r)) (.int 0) = some a := ix4_0 a r
theorem ixc1 (a b : D) (r : List D) : dIx (.tuple (a :: b :: r)) (.int 1) = some b := by
  have : (1 : Int) < (r.length : Int) + 1 + 1 := by omega
  simp [dIx, ixI, this]
theorem ixc2 (a b c : D) (r : List D) : dIx (.tuple (a :: b :: c :: r)) (.int 2) = some c := by
  have : (2 : Int) < (r.length : Int) + 1 + 1 + 1 := by omega
  simp [dIx, ixI, this]
theorem has_spec (lo hi : Option Int) (r : List D) (w : Int) (μ : Sto) : g_has [.d (.tuple (oD lo :: oD hi :: r)), .d (.int w)] μ = .ok (.d (.bool (hasB lo hi w))) μ := by
  have f : ∀ b : D, fin μ.length (.rt (.d b) μ) = .ok (.d b) μ := fun b => x_fin _ _ _ rfl
  rw [show g_has = fnOf 2 2 F_has from rfl, fnOf2]
  cases lo with
  | none => cases hi with
    | none => simp [F_has, ixc0, ixc1, hasB, leO, geO, f]
    | some h => simp [F_has, ixc0, ixc1, hasB, leO, geO, f]
  | some l =>
    by_cases h1 : l ≤ w
    · cases hi with
      | none => simp [F_has, ixc0, ixc1, hasB, leO, geO, f, h1]
      | some h => simp [F_has, ixc0, ixc1, hasB, leO, geO, f, h1]
    · cases hi <;> simp [F_has, ixc0, ixc1, hasB, leO, geO, f, h1]
def pieceOf (ps : List Pc) (w : Int) : Option Pc := ps.find? fun p => hasB p.lo p.hi w
def pD : Option Pc → D
  | none => .none
  | some p => p.d
theorem has_pc (p : Pc) (w : Int) (μ : Sto) : g_has [.d p.d, .d (.int w)] μ = .ok (.d (.bool (hasB p.lo p.hi w))) μ := has_spec p.lo p.hi _ w μ
theorem piece_loop (x0 : Option W) (w : Int) (μ : Sto) : ∀ (ps : List Pc) (x2 : Option W), ∃ x2', forL (tName 2) (sIf (eCall g_has (aCons (eVar 2) (aCons (eVar 1) aNil))) (sRet (eVar 2)) sNil) (ps.map Pc.d) [x0, some (.d (.int w)), x2] μ =
    match pieceOf ps w with | some p => .rt (.d p.d) μ | none => .nx [x0, some (.d (.int w)), x2'] μ
  | [], x2 => ⟨x2, rfl⟩
  | p :: ps, x2 => by
    obtain ⟨x2', ih⟩ := piece_loop x0 w μ ps (some (.d p.d))
    have hp := has_pc p w μ
    cases h : hasB p.lo p.hi w with
    | true => exact ⟨none, by rw [h] at hp; simp [forL, hp, pieceOf, h]⟩
    | false =>
      refine ⟨x2', ?_⟩
      rw [h] at hp
      rw [show pieceOf (p :: ps) w = pieceOf ps w by simp [pieceOf, h], ← ih]
      simp [forL, hp]
theorem piece_of_spec (ps : List Pc) (w : Int) (μ : Sto) : g_piece_of [.d (.tuple (ps.map Pc.d)), .d (.int w)] μ = .ok (.d (pD (pieceOf ps w))) μ := by
  have f : ∀ b : D, fin μ.length (.rt (.d b) μ) = .ok (.d b) μ := fun b => x_fin _ _ _ rfl
  obtain ⟨x2, e⟩ := piece_loop (some (.d (.tuple (ps.map Pc.d)))) w μ ps none
  rw [show g_piece_of = fnOf 2 3 F_piece_of from rfl, fnOf2]
  unfold F_piece_of
  rw [x_sSeq, x_sFor, x_iSeq]
  simp only [x_eVar, List.getElem?_cons_zero, R.bind_ok, items, ofO_some, R.bindS_ok, List.replicate, Nat.reduceSub]
  rw [e]
  cases pieceOf ps w with
  | none => simp [pD, f]
  | some p => simp [pD, f]
def made (o : Option Pc) (w : Int) : Int := match o with
  | none => w
  | some p => if p.set then p.by_ else w + p.by_
def changedI (ps : List Pc) (w : Int) : Int := made (pieceOf ps w) w
theorem made_spec (o : Option Pc) (w : Int) (μ : Sto) : g_made [.d (pD o), .d (.int w)] μ = .ok (.d (.int (made o w))) μ := by
  have f : ∀ b : D, fin μ.length (.rt (.d b) μ) = .ok (.d b) μ := fun b => x_fin _ _ _ rfl
  rw [show g_made = fnOf 2 2 F_made from rfl, fnOf2]
  cases o with
  | none => simp [F_made, pD, made, f]
  | some p =>
    have nn : isNonW (.d p.d) = false := rfl
    have i2 := ix2d p
    have i3 := ix3d p
    have q := eq_add p.set
    cases hs : p.set with
    | true => rw [hs] at i2 q; simp [F_made, pD, nn, i2, q, i3, made, hs, f]
    | false => rw [hs] at i2 q; simp [F_made, pD, nn, i2, q, i3, made, hs, f]
/-! the law's own -/
theorem lhas_spec (lo hi : Option Int) (w : Int) (μ : Sto) : g__law_has [.d (oD lo), .d (oD hi), .d (.int w)] μ = .ok (.d (.bool (hasB lo hi w))) μ := by
  have f : ∀ b : D, fin μ.length (.rt (.d b) μ) = .ok (.d b) μ := fun b => x_fin _ _ _ rfl
  rw [show g__law_has = fnOf 3 3 F__law_has from rfl, fnOf3]
  cases lo with
  | none => cases hi with
    | none => simp [F__law_has, hasB, leO, geO, f]
    | some h => simp [F__law_has, hasB, leO, geO, f]
  | some l =>
    by_cases h1 : l ≤ w
    · cases hi with
      | none => simp [F__law_has, hasB, leO, geO, f, h1]
      | some h => simp [F__law_has, hasB, leO, geO, f, h1]
    · cases hi <;> simp [F__law_has, hasB, leO, geO, f, h1]
theorem lpiece_loop (x0 : Option W) (w : Int) (μ : Sto) : ∀ (ps : List Pc) (x2 : Option W), ∃ x2', forL (tName 2) (sIf (eCall g__law_has (aCons (eOp dIx (eVar 2) (eInt 0)) (aCons (eOp dIx (eVar 2) (eInt 1)) (aCons (eVar 1) aNil)))) (sRet (eVar 2)) sNil) (ps.map Pc.d) [x0, some (.d (.int w)), x2] μ =
    match pieceOf ps w with | some p => .rt (.d p.d) μ | none => .nx [x0, some (.d (.int w)), x2'] μ
  | [], x2 => ⟨x2, rfl⟩
  | p :: ps, x2 => by
    obtain ⟨x2', ih⟩ := lpiece_loop x0 w μ ps (some (.d p.d))
    have hp := lhas_spec p.lo p.hi w μ
    have i0 : dIx p.d (.int 0) = some (oD p.lo) := rfl
    have i1 : dIx p.d (.int 1) = some (oD p.hi) := rfl
    cases h : hasB p.lo p.hi w with
    | true => exact ⟨none, by rw [h] at hp; simp [forL, i0, i1, hp, pieceOf, h]⟩
    | false =>
      refine ⟨x2', ?_⟩
      rw [h] at hp
      rw [show pieceOf (p :: ps) w = pieceOf ps w by simp [pieceOf, h], ← ih]
      simp [forL, i0, i1, hp]
theorem lpiece_of_spec (ps : List Pc) (w : Int) (μ : Sto) : g__law_piece [.d (.tuple (ps.map Pc.d)), .d (.int w)] μ = .ok (.d (pD (pieceOf ps w))) μ := by
  have f : ∀ b : D, fin μ.length (.rt (.d b) μ) = .ok (.d b) μ := fun b => x_fin _ _ _ rfl
  obtain ⟨x2, e⟩ := lpiece_loop (some (.d (.tuple (ps.map Pc.d)))) w μ ps none
  rw [show g__law_piece = fnOf 2 3 F__law_piece from rfl, fnOf2]
  unfold F__law_piece
  rw [x_sSeq, x_sFor, x_iSeq]
  simp only [x_eVar, List.getElem?_cons_zero, R.bind_ok, items, ofO_some, R.bindS_ok, List.replicate, Nat.reduceSub]
  rw [e]
  cases pieceOf ps w with
  | none => simp [pD, f]
  | some p => simp [pD, f]
theorem lchanged_spec (ps : List Pc) (w : Int) (μ : Sto) : g__law_changed [.d (.tuple (ps.map Pc.d)), .d (.int w)] μ = .ok (.d (.int (changedI ps w))) μ := by
  have f : ∀ b : D, fin μ.length (.rt (.d b) μ) = .ok (.d b) μ := fun b => x_fin _ _ _ rfl
  have h1 := lpiece_of_spec ps w μ
  rw [show g__law_changed = fnOf 2 3 F__law_changed from rfl, fnOf2]
  cases ho : pieceOf ps w with
  | none =>
    rw [ho] at h1
    simp [F__law_changed, h1, pD, changedI, ho, made, f]
  | some p =>
    rw [ho] at h1
    have nn : isNonW (.d p.d) = false := rfl
    have i2 := ix2d p
    have i3 := ix3d p
    have q := eq_add p.set
    cases hs : p.set with
    | true => rw [hs] at i2 q; simp [F__law_changed, h1, pD, nn, i2, q, i3, changedI, ho, made, hs, f]
    | false => rw [hs] at i2 q; simp [F__law_changed, h1, pD, nn, i2, q, i3, changedI, ho, made, hs, f]
end Pure

set_option linter.all false
set_option Elab.async false
set_option maxRecDepth 100000
set_option maxHeartbeats 1000000
/-! The plain law: changes turned about; worths are in one piece at most (parts of PureM, PureN, PureTn). -/
namespace Pure
open PySem Mi Mir
def negO (o : Option Int) : Option Int := o.map fun i => -i
theorem turned_end_spec (o : Option Int) (μ : Sto) : g_turned_end [.d (oD o)] μ = .ok (.d (oD (negO o))) μ := by
  have f : ∀ b : D, fin μ.length (.rt (.d b) μ) = .ok (.d b) μ := fun b => x_fin _ _ _ rfl
  rw [show g_turned_end = fnOf 1 1 F_turned_end from rfl, fnOf1]
  cases o with
  | none => simp [F_turned_end, negO, f]
  | some i => simp [F_turned_end, negO, f]
def Pc.turn (p : Pc) : Pc := ⟨negO p.hi, negO p.lo, p.set, -p.by_⟩
def turnPs (ps : List Pc) : List Pc := ps.reverse.map Pc.turn
theorem turned_spec (ps : List Pc) (μ : Sto) : g_turned [.d (.tuple (ps.map Pc.d))] μ = .ok (.d (.tuple ((turnPs ps).map Pc.d))) μ := by
  have f : ∀ b : D, fin μ.length (.rt (.d b) μ) = .ok (.d b) μ := fun b => x_fin _ _ _ rfl
  have rv : dRev (.tuple (ps.map Pc.d)) = some (.tuple (ps.reverse.map Pc.d)) := by
    show some (PyData.tuple (ps.map Pc.d).reverse) = _
    rw [List.map_reverse]
  have lc : ∀ ρ : Mi.Env, ρ.length = 2 → lcL (tName 1) eYes (eTup (aCons (eCall g_turned_end (aCons (eOp dIx (eVar 1) (eInt 1)) aNil)) (aCons (eCall g_turned_end (aCons (eOp dIx (eVar 1) (eInt 0)) aNil)) (aCons (eOp dIx (eVar 1) (eInt 2)) (aCons (eUn dNeg (eOp dIx (eVar 1) (eInt 3))) aNil))))) ρ (ps.reverse.map Pc.d) [] μ = .ok (.d (.list ((turnPs ps).map Pc.d))) μ := fun ρ hρ => by
    rw [lc_mapT Pc.d (fun p => p.turn.d) ps.reverse [] fun p hp => ⟨ρ.set 1 (some (.d p.d)), rfl, rfl, ?_⟩]
    · rw [List.nil_append]
      unfold turnPs
      rw [List.map_map]
      rfl
    · have i0 : dIx p.d (.int 0) = some (oD p.lo) := rfl
      have i1 : dIx p.d (.int 1) = some (oD p.hi) := rfl
      simp [hρ, i0, i1, ix2d, ix3d, turned_end_spec]
      rfl
  rw [show g_turned = fnOf 1 2 F_turned from rfl, fnOf1]
  unfold F_turned
  rw [x_sRet, x_eBlt, x_aCons, x_eLc, x_iSeq, x_eUn]
  simp only [x_eVar, List.getElem?_cons_zero, R.bind_ok, view_d, Option.bind_some, rv, Option.map_some, ofO_some, items, List.replicate, Nat.reduceSub]
  rw [lc _ (by simp [wipeE])]
  simp [bTup, f]
theorem geO_neg (o : Option Int) (w : Int) : geO (negO o) (-w) = leO o w := by
  cases o with
  | none => rfl
  | some i =>
    show decide (-w ≤ -i) = decide (i ≤ w)
    by_cases h : i ≤ w
    · rw [decide_eq_true h, decide_eq_true (by omega)]
    · rw [decide_eq_false h, decide_eq_false (by omega)]
theorem leO_neg (o : Option Int) (w : Int) : leO (negO o) (-w) = geO o w := by
  cases o with
  | none => rfl
  | some i =>
    show decide (-i ≤ -w) = decide (w ≤ i)
    by_cases h : w ≤ i
    · rw [decide_eq_true h, decide_eq_true (by omega)]
    · rw [decide_eq_false h, decide_eq_false (by omega)]
theorem hasB_neg (lo hi : Option Int) (w : Int) : hasB (negO hi) (negO lo) (-w) = hasB lo hi w := by
  unfold hasB
  rw [leO_neg, geO_neg, Bool.and_comm]
theorem pieceOf_mem {ps : List Pc} {w : Int} {p : Pc} (h : pieceOf ps w = some p) : p ∈ ps ∧ hasB p.lo p.hi w = true := ⟨List.mem_of_find?_eq_some h, by simpa using List.find?_some h⟩
/-! pieces lie apart -/
theorem leO_mono {o : Option Int} {a b : Int} (h : leO o a = true) (hab : a ≤ b) : leO o b = true := by
  cases o with
  | none => rfl
  | some i =>
    have h : decide (i ≤ a) = true := h
    show decide (i ≤ b) = true
    rw [decide_eq_true_eq] at h ⊢
    omega
theorem geO_mono {o : Option Int} {a b : Int} (h : geO o b = true) (hab : a ≤ b) : geO o a = true := by
  cases o with
  | none => rfl
  | some i =>
    have h : decide (b ≤ i) = true := h
    show decide (a ≤ i) = true
    rw [decide_eq_true_eq] at h ⊢
    omega
/-- from one piece on: the least worths come later -/
def Later (w : Int) (ps : List Pc) : Prop := ∀ p ∈ ps, ∃ l, p.lo = some l ∧ w < l
theorem apart_later : ∀ {p : Pc} {r : List Pc} {w : Int}, Apart (p :: r) → (∀ q ∈ p :: r, ∀ i j, q.lo = some i → q.hi = some j → i ≤ j) → geO p.hi w = true → Later w r
  | p, [], w, _, _, _ => fun q hq => by cases hq
  | p, q :: r, w, ha, hl, hg => by
    obtain ⟨⟨h, l, h1, h2, h3⟩, hr⟩ := ha
    rw [h1] at hg
    have hg : decide (w ≤ h) = true := hg
    rw [decide_eq_true_eq] at hg
    have gq : geO q.hi w = true := by
      cases hq : q.hi with
      | none => rfl
      | some j =>
        have := hl q (by simp) l j h2 hq
        show decide (w ≤ j) = true
        rw [decide_eq_true_eq]
        omega
    have ih := apart_later hr (fun x hx => hl x (List.mem_cons_of_mem _ hx)) gq
    intro x hx
    rcases List.mem_cons.mp hx with rfl | hx
    · exact ⟨l, h2, by omega⟩
    · exact ih x hx
/-- a worth is in one piece at most -/
theorem piece_uniq : ∀ {ps : List Pc} {p : Pc} {w : Int}, Apart ps → (∀ q ∈ ps, ∀ i j, q.lo = some i → q.hi = some j → i ≤ j) → p ∈ ps → hasB p.lo p.hi w = true → pieceOf ps w = some p
  | q :: r, p, w, ha, hl, hp, hw => by
    have hw2 : leO p.lo w = true ∧ geO p.hi w = true := by simpa [hasB] using hw
    rcases List.mem_cons.mp hp with rfl | hp
    · simp [pieceOf, hw]
    · cases hq : hasB q.lo q.hi w with
      | true =>
        have hq2 : leO q.lo w = true ∧ geO q.hi w = true := by simpa [hasB] using hq
        obtain ⟨l, h1, h2⟩ := apart_later ha hl hq2.2 p hp
        rw [h1] at hw2
        have h3 : decide (l ≤ w) = true := hw2.1
        rw [decide_eq_true_eq] at h3
        omega
      | false =>
        have ha' : Apart r := by
          cases r with
          | nil => exact True.intro
          | cons x t => exact ha.2
        have := piece_uniq ha' (fun x hx => hl x (List.mem_cons_of_mem _ hx)) hp hw
        simpa [pieceOf, hq] using this
structure Sep (ps : List Pc) : Prop where
  apart : Apart ps
  le : ∀ q ∈ ps, ∀ i j, q.lo = some i → q.hi = some j → i ≤ j
theorem Sep.in_ {ps : List Pc} (h : Sep ps) {p : Pc} {w v : Int} (hp : pieceOf ps w = some p) (h1 : w ≤ v) (h2 : geO p.hi v = true) : pieceOf ps v = some p := by
  obtain ⟨hm, hw⟩ := pieceOf_mem hp
  have hw2 : leO p.lo w = true ∧ geO p.hi w = true := by simpa [hasB] using hw
  exact piece_uniq h.apart h.le hm (by unfold hasB; rw [leO_mono hw2.1 h1, h2]; rfl)
theorem negO_some {o : Option Int} {i : Int} (h : negO o = some i) : o = some (-i) := by
  cases o with
  | none => cases h
  | some j =>
    have h : some (-j) = some i := h
    injection h with h
    rw [← h, Int.neg_neg]
theorem turn_hasB (p : Pc) (w : Int) : hasB p.turn.lo p.turn.hi (-w) = hasB p.lo p.hi w := hasB_neg p.lo p.hi w
theorem turnPs_cons (p : Pc) (r : List Pc) : turnPs (p :: r) = turnPs r ++ [p.turn] := by simp [turnPs]
theorem apart_turn : ∀ ps : List Pc, Apart ps → Apart (turnPs ps)
  | [], _ => True.intro
  | [p], _ => True.intro
  | p :: q :: r, h => by
    rw [turnPs_cons]
    refine apart_snoc _ _ (apart_turn (q :: r) h.2) fun x hx => ?_
    rw [turnPs_cons, List.getLast?_append] at hx
    cases hx
    obtain ⟨a, b, h1, h2, h3⟩ := h.1
    exact ⟨-b, -a, by show negO q.lo = _; rw [h2]; rfl, by show negO p.hi = _; rw [h1]; rfl, by omega⟩
theorem sep_turn {ps : List Pc} (h : Sep ps) : Sep (turnPs ps) := ⟨apart_turn ps h.apart, fun q hq i j h1 h2 => by
  obtain ⟨p, hp, rfl⟩ := List.mem_map.mp hq
  have := h.le p (List.mem_reverse.mp hp) (-j) (-i) (negO_some h2) (negO_some h1)
  omega⟩
theorem sep_of {ps : List Pc} (h : ChOk ps) : Sep ps := ⟨h.apart, fun q hq => (h.all q hq).le⟩
theorem pieceOf_turn {ps : List Pc} (h : Sep ps) (w : Int) : pieceOf (turnPs ps) (-w) = (pieceOf ps w).map Pc.turn := by
  cases hp : pieceOf ps w with
  | some p =>
    obtain ⟨hm, hw⟩ := pieceOf_mem hp
    have hs := sep_turn h
    exact piece_uniq hs.apart hs.le (List.mem_map.mpr ⟨p, List.mem_reverse.mpr hm, rfl⟩) (by rw [turn_hasB]; exact hw)
  | none =>
    unfold pieceOf at hp ⊢
    rw [List.find?_eq_none] at hp
    rw [Option.map_none, List.find?_eq_none]
    intro q hq
    obtain ⟨p, hp', rfl⟩ := List.mem_map.mp hq
    rw [turn_hasB]
    exact hp p (List.mem_reverse.mp hp')
end Pure

set_option linter.all false
set_option Elab.async false
set_option maxRecDepth 100000
set_option maxHeartbeats 1000000
/-! The plain law: changes as values: the methods. -/
namespace Pure
open PySem Mi Mir
def vob (d : D) : Option Cell := some (.ins "Change" [("kept", d)])
structure VAt (μ : Sto) (k : Nat) (d : D) : Prop where
  at_ : μ[k]? = some (vob d)
theorem VAt.mins {μ : Sto} {k : Nat} {d : D} (h : VAt μ k d) : Mi.mins μ k = some (("Change" : Str), [(("kept" : Str), d)]) := by
  unfold Mi.mins
  rw [h.at_]
  rfl
theorem VAt.lt {μ : Sto} {k : Nat} {d : D} (h : VAt μ k d) : k < μ.length := (List.getElem?_eq_some_iff.mp h.at_).1
theorem VAt.app {μ : Sto} {k : Nat} {d : D} (h : VAt μ k d) (ν : Sto) : VAt (μ ++ ν) k d := ⟨by
  rw [List.getElem?_append_left h.lt]
  exact h.at_⟩
theorem VAt.last (μ : Sto) (d : D) : VAt (μ ++ [vob d]) μ.length d := ⟨by simp⟩
theorem fin_rt (d : D) (μ : Sto) : fin μ.length (.rt (.d d) μ) = .ok (.d d) μ := x_fin _ _ _ rfl
theorem fin_nx (ρ : Mi.Env) (μ : Sto) : fin μ.length (.nx ρ μ) = .ok (.d .none) μ := by simp [fin]
theorem take1 (μ : Sto) (c : Option Cell) : List.take (List.length μ + 1) (μ ++ [c]) = μ ++ [c] := List.take_of_length_le (by simp)
theorem fin_er (x : Exn) (μ : Sto) : fin μ.length (.er x μ) = .er x μ := by simp [fin]
theorem need_change_spec (d : D) (hs : SeqAt.shaped d = true) (μ : Sto) : g_need_change [.d d] μ = if fitsCh d = true then .ok (.d .none) μ else .er ⟨"InvalidChange", none⟩ μ := by
  have e := fits_change_spec d hs μ
  rw [show g_need_change = fnOf 1 1 F_need_change from rfl, fnOf1]
  cases h : fitsCh d with
  | true => rw [h] at e; simp [F_need_change, e, fin_nx]
  | false => rw [h] at e; simp [F_need_change, e, fin_er]
theorem need_worth_spec (d : D) (μ : Sto) : g_need_worth_d [.d d] μ = if wholeD d (-far) far = true then .ok (.d .none) μ else .er ⟨"InvalidWorth", none⟩ μ := by
  have e := whole_spec d (-far) far μ
  show fnOf 2 2 F_need_worth [.d d, .d (.int (-far))] μ = _
  rw [fnOf2]
  have hf : (1000000000000000000000000000000 : Int) = far := rfl
  cases h : wholeD d (-far) far with
  | true => rw [h] at e; simp [F_need_worth, hf, e, fin_nx]
  | false => rw [h] at e; simp [F_need_worth, hf, e, fin_er]
theorem need_index_spec (l : List D) (d : D) (μ : Sto) : g_need_index [.d (.tuple l), .d d] μ = if wholeD d 0 ((l.length : Int) - 1) = true then .ok (.d .none) μ else .er ⟨"InvalidIndex", none⟩ μ := by
  have e := whole_spec d 0 ((l.length : Int) - 1) μ
  rw [show g_need_index = fnOf 2 2 F_need_index from rfl, fnOf2]
  cases h : wholeD d 0 ((l.length : Int) - 1) with
  | true => rw [h] at e; simp [F_need_index, bLen, e, fin_nx]
  | false => rw [h] at e; simp [F_need_index, bLen, e, fin_er]
theorem init_spec (l : List D) (hs : SeqAt.shaped (.tuple l) = true) (μ : Sto) : g_Change____init__ [.m μ.length, .d (.tuple l)] (μ ++ [some (.ins "Change" [])]) =
    if fitsCh (.tuple l) = true then .ok (.d .none) (μ ++ [vob (.tuple l)]) else .er ⟨"InvalidChange", none⟩ (μ ++ [some (.ins "Change" [])]) := by
  have e := need_change_spec (.tuple l) hs (μ ++ [some (.ins "Change" [])])
  have m0 : mins (μ ++ [some (.ins "Change" [])]) μ.length = some (("Change" : Str), []) := by simp [Mi.mins]
  rw [show g_Change____init__ = fnOf 2 2 F_Change____init__ from rfl, fnOf2]
  cases h : fitsCh (.tuple l) with
  | true =>
    rw [h] at e
    have e : g_need_change [.d (.tuple l)] (μ ++ [some (.ins "Change" [])]) = .ok (.d .none) (μ ++ [some (.ins "Change" [])]) := e
    simp [F_Change____init__, bTup, e, m0, fin, putD, vob, take1]
  | false =>
    rw [h] at e
    have e : g_need_change [.d (.tuple l)] (μ ++ [some (.ins "Change" [])]) = .er ⟨"InvalidChange", none⟩ (μ ++ [some (.ins "Change" [])]) := e
    simp [F_Change____init__, bTup, e, fin, take1]
/-- a value, made -/
theorem newS_ok {ρ : Mi.Env} {μ μ1 : Sto} {a : AF} {ws : List W} {ds : List D} (ha : a ρ μ = .ok ws μ1) (hd : asDs ws = some ds) (hs : SeqAt.shaped (.tuple ds) = true) (hf : fitsCh (.tuple ds) = true) :
    eNewS "Change" g_Change____init__ a ρ μ = .ok (.m μ1.length) (μ1 ++ [vob (.tuple ds)]) := by
  have e := init_spec ds hs μ1
  rw [hf] at e
  rw [x_eNewS, ha]
  simp only [R.bind_ok, hd]
  rw [e]
  rfl
theorem newS_er {ρ : Mi.Env} {μ μ1 : Sto} {a : AF} {ws : List W} {ds : List D} (ha : a ρ μ = .ok ws μ1) (hd : asDs ws = some ds) (hs : SeqAt.shaped (.tuple ds) = true) (hf : fitsCh (.tuple ds) = false) :
    eNewS "Change" g_Change____init__ a ρ μ = .er ⟨"InvalidChange", none⟩ (μ1 ++ [some (.ins "Change" [])]) := by
  have e := init_spec ds hs μ1
  rw [hf] at e
  rw [x_eNewS, ha]
  simp only [R.bind_ok, hd]
  rw [e]
  rfl
theorem fits_len {l : List D} (h : fitsCh (.tuple l) = true) : l.length ≤ 4 := by
  unfold fitsCh at h
  simp only [Bool.and_eq_true, decide_eq_true_eq] at h
  omega
theorem value_of_spec (l : List D) (hs : SeqAt.shaped (.tuple l) = true) (μ : Sto) : g_value_of [.d (.tuple l)] μ =
    if fitsCh (.tuple l) = true then .ok (.m μ.length) (μ ++ [vob (.tuple l)]) else .er ⟨"InvalidChange", none⟩ μ := by
  have e := need_change_spec (.tuple l) hs μ
  have e2 := init_spec l hs μ
  rw [show g_value_of = fnOf 1 1 F_value_of from rfl, fnOf1]
  cases h : fitsCh (.tuple l) with
  | true =>
    rw [h] at e e2
    have e : g_need_change [.d (.tuple l)] μ = .ok (.d .none) μ := e
    have e2 : g_Change____init__ [.m μ.length, .d (.tuple l)] (μ ++ [some (.ins "Change" [])]) = .ok (.d .none) (μ ++ [vob (.tuple l)]) := e2
    have hl : l.length ≤ LIM := Nat.le_trans (fits_len h) (by decide)
    simp [F_value_of, e, e2, hl, fin, take1]
  | false =>
    rw [h] at e
    have e : g_need_change [.d (.tuple l)] μ = .er ⟨"InvalidChange", none⟩ μ := e
    simp [F_value_of, e, fin_er]
section
variable {μ : Sto} {k : Nat} {d : D}
theorem pieces_spec (h : VAt μ k d) : g_Change__pieces [.m k] μ = .ok (.d d) μ := by
  rw [show g_Change__pieces = fnOf 1 1 F_Change__pieces from rfl, fnOf1]
  simp [F_Change__pieces, h.mins, fin_rt]
theorem len_spec {l : List D} (h : VAt μ k (.tuple l)) : g_Change____len__ [.m k] μ = .ok (.d (.int l.length)) μ := by
  rw [show g_Change____len__ = fnOf 1 1 F_Change____len__ from rfl, fnOf1]
  simp [F_Change____len__, h.mins, bLen, fin_rt]
theorem getitem_spec {l : List D} (h : VAt μ k (.tuple l)) (e : D) : g_Change____getitem__ [.m k, .d e] μ = match e with
    | .int i => if 0 ≤ i ∧ i < l.length then .ok (.d (l.getD i.toNat .none)) μ else .er ⟨"InvalidIndex", none⟩ μ
    | _ => .er ⟨"InvalidIndex", none⟩ μ := by
  have n := need_index_spec l e μ
  rw [show g_Change____getitem__ = fnOf 2 2 F_Change____getitem__ from rfl, fnOf2]
  cases e with
  | int i =>
    by_cases hi : 0 ≤ i ∧ i < l.length
    · have w : wholeD (.int i) 0 ((l.length : Int) - 1) = true := by
        have h1 := hi.1
        have h2 : i ≤ (l.length : Int) - 1 := by omega
        simp [wholeD, h1, h2]
      rw [if_pos w] at n
      have hn : i.toNat < l.length := by omega
      simp [F_Change____getitem__, h.mins, n, dIx, ixI, hi.1, hi.2, hn, fin_rt]
    · have w : wholeD (.int i) 0 ((l.length : Int) - 1) = false := by
        by_cases h1 : 0 ≤ i
        · have h2 : ¬ i ≤ (l.length : Int) - 1 := by omega
          simp [wholeD, h2]
        · simp [wholeD, h1]
      rw [w] at n
      simp only [Bool.false_eq_true, if_false] at n
      simp [F_Change____getitem__, h.mins, n, fin_er, hi]
  | _ =>
    simp only [wholeD, Bool.false_eq_true, if_false] at n
    simp [F_Change____getitem__, h.mins, n, fin_er]
theorem sub_spec {l : List D} (h : VAt μ k (.tuple l)) (hl : l.length ≤ 4) (hs : SeqAt.shaped (.tuple l) = true) (e : D) : g_Change____sub__ [.m k, .d e] μ = match e with
    | .int i => if 0 ≤ i ∧ i < l.length then g_value_of [.d (.tuple (l.take i.toNat ++ l.drop (i.toNat + 1)))] μ else .er ⟨"InvalidIndex", none⟩ μ
    | _ => .er ⟨"InvalidIndex", none⟩ μ := by
  have n := need_index_spec l e μ
  rw [show g_Change____sub__ = fnOf 2 2 F_Change____sub__ from rfl, fnOf2]
  cases e with
  | int i =>
    by_cases hi : 0 ≤ i ∧ i < l.length
    · have w : wholeD (.int i) 0 ((l.length : Int) - 1) = true := by
        have h1 := hi.1
        have h2 : i ≤ (l.length : Int) - 1 := by omega
        simp [wholeD, h1, h2]
      rw [if_pos w] at n
      have hn : i.toNat < l.length := by omega
      have c1 : cutL l none (some i) = l.take i.toNat := by
        have h1 : ¬ i < 0 := by omega
        have h2 : min i.toNat l.length = i.toNat := by omega
        simp [cutL, six, h1, h2]
      have c2 : cutL l (some (i + 1)) none = l.drop (i.toNat + 1) := by
        have h1 : ¬ i + 1 < 0 := by omega
        have h2 : min (i + 1).toNat l.length = i.toNat + 1 := by omega
        simp [cutL, six, h1, h2]
        exact List.take_of_length_le (by simp)
      have hlim : min i.toNat l.length + (l.length - (i.toNat + 1)) ≤ LIM := by
        have : (1000 : Nat) ≤ LIM := by decide
        omega
      have sh : SeqAt.shaped (.tuple (l.take i.toNat ++ l.drop (i.toNat + 1))) = true := by
        have := shaped_iff.mp hs
        obtain ⟨h1, h2⟩ := this
        rw [PyData.canLay0] at h1
        rw [PyData.depth] at h2
        refine shaped_iff.mpr ⟨?_, ?_⟩
        · rw [PyData.canLay0]
          exact canAll_of fun x hx => canAll_mem h1 (by
            rcases List.mem_append.mp hx with hx | hx
            · exact List.mem_of_mem_take hx
            · exact List.mem_of_mem_drop hx)
        · rw [PyData.depth]
          have : PyData.depthAll (l.take i.toNat ++ l.drop (i.toNat + 1)) ≤ PyData.depthAll l := depthAll_of fun x hx => depth_mem (by
            rcases List.mem_append.mp hx with hx | hx
            · exact List.mem_of_mem_take hx
            · exact List.mem_of_mem_drop hx)
          omega
      have v := value_of_spec _ sh μ
      simp only [hi, and_self, if_true]
      cases hf : fitsCh (.tuple (l.take i.toNat ++ l.drop (i.toNat + 1))) with
      | true =>
        rw [hf] at v
        simp only [if_true] at v
        rw [v]
        simp [F_Change____sub__, h.mins, n, dCut, c1, c2, dAdd, hlim, v, fin, take1]
      | false =>
        rw [hf] at v
        simp only [Bool.false_eq_true, if_false] at v
        rw [v]
        simp [F_Change____sub__, h.mins, n, dCut, c1, c2, dAdd, hlim, v, fin, take1]
    · have w : wholeD (.int i) 0 ((l.length : Int) - 1) = false := by
        by_cases h1 : 0 ≤ i
        · have h2 : ¬ i ≤ (l.length : Int) - 1 := by omega
          simp [wholeD, h2]
        · simp [wholeD, h1]
      rw [w] at n
      simp only [Bool.false_eq_true, if_false] at n
      simp [F_Change____sub__, h.mins, n, fin_er, hi]
  | _ =>
    simp only [wholeD, Bool.false_eq_true, if_false] at n
    simp [F_Change____sub__, h.mins, n, fin_er]
theorem changed_by_spec (ps : List Pc) (w : Int) (μ : Sto) : g_changed_by [.d (.tuple (ps.map Pc.d)), .d (.int w)] μ = .ok (.d (.int (changedI ps w))) μ := by
  rw [show g_changed_by = fnOf 2 2 F_changed_by from rfl, fnOf2]
  simp [F_changed_by, piece_of_spec, made_spec, fin_rt, changedI]
theorem call_spec {ps : List Pc} (h : VAt μ k (.tuple (ps.map Pc.d))) (e : D) : g_Change____call__ [.m k, .d e] μ = match e with
    | .int i => if -far ≤ i ∧ i ≤ far then .ok (.d (.int (changedI ps i))) μ else .er ⟨"InvalidWorth", none⟩ μ
    | _ => .er ⟨"InvalidWorth", none⟩ μ := by
  have n := need_worth_spec e μ
  rw [show g_Change____call__ = fnOf 2 2 F_Change____call__ from rfl, fnOf2]
  cases e with
  | int i =>
    by_cases hi : -far ≤ i ∧ i ≤ far
    · rw [if_pos (by simp [wholeD, hi.1, hi.2])] at n
      simp [F_Change____call__, h.mins, n, changed_by_spec, fin_rt, hi]
    · have w : wholeD (.int i) (-far) far = false := by
        by_cases h1 : -far ≤ i
        · have h2 : ¬ i ≤ far := fun z => hi ⟨h1, z⟩
          simp [wholeD, h2]
        · simp [wholeD, h1]
      rw [w] at n
      simp only [Bool.false_eq_true, if_false] at n
      simp [F_Change____call__, h.mins, n, fin_er, hi]
  | _ =>
    simp only [wholeD, Bool.false_eq_true, if_false] at n
    simp [F_Change____call__, h.mins, n, fin_er]
theorem isNonW_p (o : Option Pc) : isNonW (.d (pD o)) = o.isNone := by cases o <;> rfl
theorem contains_spec {ps : List Pc} (h : VAt μ k (.tuple (ps.map Pc.d))) (e : D) : g_Change____contains__ [.m k, .d e] μ = .ok (.d (.bool (match e with | .int i => (pieceOf ps i).isSome | _ => false))) μ := by
  rw [show g_Change____contains__ = fnOf 2 2 F_Change____contains__ from rfl, fnOf2]
  cases e with
  | int i => simp [F_Change____contains__, h.mins, isTy, piece_of_spec, isNonW_p, fin_rt]
  | _ => simp [F_Change____contains__, isTy, fin_rt]
def Pc.mv (t : Int) (p : Pc) : Pc := ⟨p.lo.map (· + t), p.hi.map (· + t), p.set, if p.set then p.by_ + t else p.by_⟩
theorem moved_end_spec (o : Option Int) (t : Int) (μ : Sto) : g_moved_end [.d (oD o), .d (.int t)] μ = .ok (.d (oD (o.map (· + t)))) μ := by
  rw [show g_moved_end = fnOf 2 2 F_moved_end from rfl, fnOf2]
  cases o <;> simp [F_moved_end, fin_rt]
theorem moved_piece_spec (p : Pc) (t : Int) (μ : Sto) : g_moved_piece [.d p.d, .d (.int t)] μ = .ok (.d (p.mv t).d) μ := by
  rw [show g_moved_piece = fnOf 2 6 F_moved_piece from rfl, fnOf2]
  have q := eq_add p.set
  cases hs : p.set with
  | true =>
    rw [hs] at q
    simp [F_moved_piece, Pc.d, moved_end_spec, q, fin_rt, Pc.mv, hs]
  | false =>
    rw [hs] at q
    simp [F_moved_piece, Pc.d, moved_end_spec, q, fin_rt, Pc.mv, hs]
theorem moved_lc (ps : List Pc) (t : Int) (μ : Sto) (ρ : Mi.Env) (hρ : ρ.length = 3) (h1 : ρ[1]? = some (some (.d (.int t)))) : lcL (tName 2) eYes (eCall g_moved_piece (aCons (eVar 2) (aCons (eVar 1) aNil))) ρ (ps.map Pc.d) [] μ = .ok (.d (.list ((ps.map (Pc.mv t)).map Pc.d))) μ := by
  rw [lc_mapT Pc.d (fun p => (p.mv t).d) ps [] fun p hp => ⟨ρ.set 2 (some (.d p.d)), rfl, rfl, ?_⟩]
  · rw [List.nil_append, List.map_map]
    rfl
  · have h1' : (ρ.set 2 (some (.d p.d)))[1]? = some (some (.d (.int t))) := by rw [List.getElem?_set_ne (by decide)]; exact h1
    have h2' : (ρ.set 2 (some (.d p.d)))[2]? = some (some (.d p.d)) := by rw [List.getElem?_set_self (by omega)]
    simp only [x_eCall, x_aCons, x_aNil, x_eVar, h1', h2', R.bind_ok, moved_piece_spec]
theorem rshift_spec {ps : List Pc} (h : VAt μ k (.tuple (ps.map Pc.d))) (e : D) : g_Change____rshift__ [.m k, .d e] μ = match e with
    | .int i => if -far ≤ i ∧ i ≤ far then g_value_of [.d (.tuple ((ps.map (Pc.mv i)).map Pc.d))] μ else .er ⟨"InvalidWorth", none⟩ μ
    | _ => .er ⟨"InvalidWorth", none⟩ μ := by
  have n := need_worth_spec e μ
  rw [show g_Change____rshift__ = fnOf 2 3 F_Change____rshift__ from rfl, fnOf2]
  cases e with
  | int i =>
    by_cases hi : -far ≤ i ∧ i ≤ far
    · rw [if_pos (by simp [wholeD, hi.1, hi.2])] at n
      have sh := sh_ps (ps.map (Pc.mv i))
      have v := value_of_spec _ (sh.shaped (by decide)) μ
      have m := moved_lc ps i μ [some (.m k), some (.d (.int i)), none] rfl rfl
      simp only [hi, and_self, if_true]
      cases hf : fitsCh (.tuple ((ps.map (Pc.mv i)).map Pc.d)) with
      | true =>
        rw [hf] at v
        simp only [if_true] at v
        rw [v]
        simp only [F_Change____rshift__, x_sSeq, x_sDrop, x_sRet, x_eCall, x_aCons, x_aNil, x_eVar, List.getElem?_cons_zero, List.getElem?_cons_succ, R.bind_ok, n, R.bindS_ok, x_eBlt, x_eLc, x_iSeq, x_eFld, h.mins, if_true, items, ofO_some, Option.map_some,
          List.lookup, beq_self_eq_true, wipeE, List.replicate, Nat.reduceSub, List.set_cons_succ, List.set_cons_zero, m, views, view_d, Option.bind_some, bTup, v]
        simp [fin, take1]
      | false =>
        rw [hf] at v
        simp only [Bool.false_eq_true, if_false] at v
        rw [v]
        simp only [F_Change____rshift__, x_sSeq, x_sDrop, x_sRet, x_eCall, x_aCons, x_aNil, x_eVar, List.getElem?_cons_zero, List.getElem?_cons_succ, R.bind_ok, n, R.bindS_ok, x_eBlt, x_eLc, x_iSeq, x_eFld, h.mins, if_true, items, ofO_some, Option.map_some,
          List.lookup, beq_self_eq_true, wipeE, List.replicate, Nat.reduceSub, List.set_cons_succ, List.set_cons_zero, m, views, view_d, Option.bind_some, bTup, v]
        simp [fin, take1]
    · have w : wholeD (.int i) (-far) far = false := by
        by_cases h1 : -far ≤ i
        · have h2 : ¬ i ≤ far := fun z => hi ⟨h1, z⟩
          simp [wholeD, h2]
        · simp [wholeD, h1]
      rw [w] at n
      simp only [Bool.false_eq_true, if_false] at n
      simp [F_Change____rshift__, n, fin_er, hi]
  | _ =>
    simp only [wholeD, Bool.false_eq_true, if_false] at n
    simp [F_Change____rshift__, n, fin_er]
theorem invert_spec {ps : List Pc} (h : VAt μ k (.tuple (ps.map Pc.d))) : g_Change____invert__ [.m k] μ = g_value_of [.d (.tuple ((turnPs ps).map Pc.d))] μ := by
  rw [show g_Change____invert__ = fnOf 1 1 F_Change____invert__ from rfl, fnOf1]
  have sh := sh_ps (turnPs ps)
  have v := value_of_spec _ (sh.shaped (by decide)) μ
  cases hf : fitsCh (.tuple ((turnPs ps).map Pc.d)) with
  | true =>
    rw [hf] at v
    simp only [if_true] at v
    rw [v]
    simp [F_Change____invert__, h.mins, turned_spec, v, fin, take1]
  | false =>
    rw [hf] at v
    simp only [Bool.false_eq_true, if_false] at v
    rw [v]
    simp [F_Change____invert__, h.mins, turned_spec, v, fin, take1]
theorem eq_spec {l l2 : List D} {k2 : Nat} (h : VAt μ k (.tuple l)) (h2 : VAt μ k2 (.tuple l2)) (hs : SeqAt.shaped (.tuple l) = true) (hs2 : SeqAt.shaped (.tuple l2) = true) : g_Change____eq__ [.m k, .m k2] μ = .ok (.d (.bool (PyData.eqv (.tuple l) (.tuple l2)))) μ := by
  rw [show g_Change____eq__ = fnOf 2 2 F_Change____eq__ from rfl, fnOf2]
  simp [F_Change____eq__, h.mins, h2.mins, dEqD hs hs2, fin_rt]
theorem eqD_spec (e : D) : g_Change____eq__ [.m k, .d e] μ = .ok (.d (.bool false)) μ := by
  rw [show g_Change____eq__ = fnOf 2 2 F_Change____eq__ from rfl, fnOf2]
  simp [F_Change____eq__, fin_rt]
end
end Pure

set_option linter.all false
set_option Elab.async false
set_option maxRecDepth 100000
set_option maxHeartbeats 2000000
/-! The plain law: the parts of a stretch of worths. -/
namespace Pure
open PySem Mi Mir
def Bey : Int := 100000000000000000000000000000000
def flo (p : Pc) : Int := match p.lo with | none => -Bey | some l => l
def topP (p : Pc) : Int := match p.hi with | none => Bey | some h => h
theorem floor_of_spec (p : Pc) (μ : Sto) : g_floor_of [.d p.d] μ = .ok (.d (.int (flo p))) μ := by
  have i0 : dIx p.d (.int 0) = some (oD p.lo) := rfl
  rw [show g_floor_of = fnOf 1 1 F_floor_of from rfl, fnOf1]
  cases h : p.lo with
  | none => rw [h] at i0; simp [F_floor_of, i0, flo, h, Bey, x_fin]
  | some l => rw [h] at i0; simp [F_floor_of, i0, flo, h, x_fin]
theorem top_of_spec (p : Pc) (μ : Sto) : g_top_of [.d p.d] μ = .ok (.d (.int (topP p))) μ := by
  have i0 : dIx p.d (.int 1) = some (oD p.hi) := rfl
  rw [show g_top_of = fnOf 1 1 F_top_of from rfl, fnOf1]
  cases h : p.hi with
  | none => rw [h] at i0; simp [F_top_of, i0, topP, h, Bey, x_fin]
  | some l => rw [h] at i0; simp [F_top_of, i0, topP, h, x_fin]
def mx (a b : Int) : Int := if b > a then b else a
def mn (a b : Int) : Int := if b < a then b else a
theorem mx_l (a b : Int) : a ≤ mx a b := by unfold mx; split <;> omega
theorem mx_r (a b : Int) : b ≤ mx a b := by unfold mx; split <;> omega
theorem mn_l (a b : Int) : mn a b ≤ a := by unfold mn; split <;> omega
theorem mn_r (a b : Int) : mn a b ≤ b := by unfold mn; split <;> omega
theorem mx_or (a b : Int) : mx a b = a ∨ mx a b = b := by unfold mx; split <;> simp
theorem mn_or (a b : Int) : mn a b = a ∨ mn a b = b := by unfold mn; split <;> simp
theorem bMax2_mx (a b : Int) : bMax2 [.int a, .int b] = some (.int (mx a b)) := rfl
theorem bMin2_mn (a b : Int) : bMin2 [.int a, .int b] = some (.int (mn a b)) := rfl
/-- a part: from, to, its piece -/
structure Pt where
  b : Int
  e : Int
  o : Option Pc
def Pt.d (t : Pt) : D := .tuple [.int t.b, .int t.e, pD t.o]
def lastP (high begin : Int) : List Pt := if begin ≤ high then [⟨begin, high, none⟩] else []
def partsL (low high : Int) : List Pc → Int → List Pt
  | [], begin => lastP high begin
  | p :: r, begin => if mx low (flo p) ≤ mn high (topP p) then (if begin < mx low (flo p) then [⟨begin, mx low (flo p) - 1, none⟩] else []) ++ (⟨mx low (flo p), mn high (topP p), some p⟩ :: partsL low high r (mn high (topP p) + 1)) else partsL low high r begin
def B_parts : SF := (sSeq (sPar 6 7 (eBlt bMax2 (aCons (eVar 1) (aCons (eCall g_floor_of (aCons (eVar 5) aNil)) aNil))) (eBlt bMin2 (aCons (eVar 2) (aCons (eCall g_top_of (aCons (eVar 5) aNil)) aNil))))
    (sIf (eOp dLe (eVar 6) (eVar 7)) (sSeq (sIf (eOp dLt (eVar 4) (eVar 6)) (sAsg 3 (eOp dAdd (eVar 3) (eLst (aCons (eTup (aCons (eVar 4) (aCons (eOp dSub (eVar 6) (eInt 1)) (aCons eNon aNil)))) aNil)))) sNil)
    (sPar 3 4 (eOp dAdd (eVar 3) (eLst (aCons (eTup (aCons (eVar 6) (aCons (eVar 7) (aCons (eVar 5) aNil)))) aNil))) (eOp dAdd (eVar 7) (eInt 1)))) sNil))
def penv (x0 : Option W) (low high : Int) (acc : List Pt) (begin : Int) (x5 x6 x7 : Option W) : Mi.Env := [x0, some (.d (.int low)), some (.d (.int high)), some (.d (.list (acc.map Pt.d))), some (.d (.int begin)), x5, x6, x7]
theorem cat_n (acc : List Pt) (b e : Int) (h : acc.length ≤ 5000) : dAdd (.list (acc.map Pt.d)) (.list [.tuple [.int b, .int e, .none]]) = some (.list ((acc ++ ([⟨b, e, none⟩] : List Pt)).map Pt.d)) := by
  have : (acc.map Pt.d).length + [PyData.tuple [.int b, .int e, .none]].length ≤ LIM := by
    have : (10000 : Nat) ≤ LIM := by decide
    simp
    omega
  show (if _ then _ else _) = _
  rw [if_pos this, List.map_append]
  rfl
theorem cat_p (acc : List Pt) (b e : Int) (p : Pc) (h : acc.length ≤ 5000) : dAdd (.list (acc.map Pt.d)) (.list [.tuple [.int b, .int e, p.d]]) = some (.list ((acc ++ ([⟨b, e, some p⟩] : List Pt)).map Pt.d)) := by
  have : (acc.map Pt.d).length + [PyData.tuple [.int b, .int e, p.d]].length ≤ LIM := by
    have : (10000 : Nat) ≤ LIM := by decide
    simp
    omega
  show (if _ then _ else _) = _
  rw [if_pos this, List.map_append]
  rfl
theorem parts_turn (x0 : Option W) (low high : Int) (acc : List Pt) (begin : Int) (x6 x7 : Option W) (p : Pc) (μ : Sto) (h : acc.length ≤ 4000) : ∃ x6' x7', B_parts (penv x0 low high acc begin (some (.d p.d)) x6 x7) μ =
    if mx low (flo p) ≤ mn high (topP p) then .nx (penv x0 low high (acc ++ (if begin < mx low (flo p) then [⟨begin, mx low (flo p) - 1, none⟩] else []) ++ [⟨mx low (flo p), mn high (topP p), some p⟩]) (mn high (topP p) + 1) (some (.d p.d)) x6' x7') μ
    else .nx (penv x0 low high acc begin (some (.d p.d)) x6' x7') μ := by
  refine ⟨some (.d (.int (mx low (flo p)))), some (.d (.int (mn high (topP p)))), ?_⟩
  unfold B_parts penv
  by_cases h1 : mx low (flo p) ≤ mn high (topP p)
  · rw [if_pos h1]
    by_cases h2 : begin < mx low (flo p)
    · have c1 := cat_n acc begin (mx low (flo p) - 1) (by omega)
      have c3 := cat_p (acc ++ [⟨begin, mx low (flo p) - 1, none⟩]) (mx low (flo p)) (mn high (topP p)) p (by simp; omega)
      rw [if_pos h2]
      simp [floor_of_spec, top_of_spec, bMax2_mx, bMin2_mn, h1, h2, c1, c3, -List.map_append, -List.append_assoc]
    · have c3 := cat_p acc (mx low (flo p)) (mn high (topP p)) p (by omega)
      rw [if_neg h2, List.append_nil]
      simp [floor_of_spec, top_of_spec, bMax2_mx, bMin2_mn, h1, h2, c3, -List.map_append]
  · rw [if_neg h1]
    simp [floor_of_spec, top_of_spec, bMax2_mx, bMin2_mn, h1]
theorem parts_loop (x0 : Option W) (low high : Int) (μ : Sto) : ∀ (ps : List Pc) (acc : List Pt) (begin : Int) (x5 x6 x7 : Option W), acc.length + 2 * ps.length ≤ 4000 →
    ∃ x5' x6' x7' accF beginF, forL (tName 5) B_parts (ps.map Pc.d) (penv x0 low high acc begin x5 x6 x7) μ = .nx (penv x0 low high accF beginF x5' x6' x7') μ ∧ accF.length ≤ acc.length + 2 * ps.length ∧ accF ++ lastP high beginF = acc ++ partsL low high ps begin
  | [], acc, begin, x5, x6, x7, _ => ⟨x5, x6, x7, acc, begin, rfl, by simp, rfl⟩
  | p :: r, acc, begin, x5, x6, x7, h => by
    rw [List.length_cons] at h
    obtain ⟨x6a, x7a, e⟩ := parts_turn x0 low high acc begin x6 x7 p μ (by omega)
    have st : forL (tName 5) B_parts ((p :: r).map Pc.d) (penv x0 low high acc begin x5 x6 x7) μ = (match B_parts (penv x0 low high acc begin (some (.d p.d)) x6 x7) μ with
      | .nx ρ2 μ2 => forL (tName 5) B_parts (r.map Pc.d) ρ2 μ2
      | .ct ρ2 μ2 => forL (tName 5) B_parts (r.map Pc.d) ρ2 μ2
      | .bk ρ2 μ2 => .nx ρ2 μ2
      | .rt w μ2 => .rt w μ2
      | .er x μ2 => .er x μ2
      | .no => .no) := rfl
    by_cases hc : mx low (flo p) ≤ mn high (topP p)
    · rw [if_pos hc] at e
      have hl : (acc ++ (if begin < mx low (flo p) then [⟨begin, mx low (flo p) - 1, none⟩] else []) ++ [⟨mx low (flo p), mn high (topP p), some p⟩] : List Pt).length ≤ acc.length + 2 := by
        split <;> simp
      obtain ⟨a, b, c, accF, beginF, e2, h2, h3⟩ := parts_loop x0 low high μ r _ (mn high (topP p) + 1) (some (.d p.d)) x6a x7a (show (acc ++ (if begin < mx low (flo p) then [⟨begin, mx low (flo p) - 1, none⟩] else []) ++ [⟨mx low (flo p), mn high (topP p), some p⟩] : List Pt).length + 2 * r.length ≤ 4000 by omega)
      refine ⟨a, b, c, accF, beginF, by rw [st, e]; exact e2, by rw [List.length_cons]; omega, ?_⟩
      rw [h3, partsL, if_pos hc]
      simp
    · rw [if_neg hc] at e
      obtain ⟨a, b, c, accF, beginF, e2, h2, h3⟩ := parts_loop x0 low high μ r acc begin (some (.d p.d)) x6a x7a (by omega)
      refine ⟨a, b, c, accF, beginF, by rw [st, e]; exact e2, by rw [List.length_cons]; omega, ?_⟩
      rw [h3, partsL, if_neg hc]
theorem parts_of_spec (ps : List Pc) (low high : Int) (μ : Sto) (h : ps.length ≤ 1000) : g_parts_of [.d (.tuple (ps.map Pc.d)), .d (.int low), .d (.int high)] μ = .ok (.d (.list ((partsL low high ps low).map Pt.d))) μ := by
  obtain ⟨a, b, c, accF, beginF, e, h2, h3⟩ := parts_loop (some (.d (.tuple (ps.map Pc.d)))) low high μ ps [] low none none none (by simp; omega)
  rw [List.nil_append] at h3
  rw [List.length_nil] at h2
  rw [show g_parts_of = fnOf 3 8 F_parts_of from rfl, fnOf3]
  have st : F_parts_of = sSeq (sPar 3 4 (eLst aNil) (eVar 1)) (sSeq (sFor (tName 5) (iSeq (eVar 0)) B_parts) (sRet (eIf (eOp dLe (eVar 4) (eVar 2)) (eOp dAdd (eVar 3) (eLst (aCons (eTup (aCons (eVar 4) (aCons (eVar 2) (aCons eNon aNil)))) aNil))) (eVar 3)))) := rfl
  rw [st, x_sSeq, x_sPar]
  simp only [x_eLst, x_aNil, R.bind_ok, asDs_nil, Option.map_some, ofO_some, R.bindS_ok, x_eVar, List.getElem?_cons_zero, List.getElem?_cons_succ, List.set_cons_succ, List.set_cons_zero, List.replicate, Nat.reduceSub]
  rw [x_sSeq, x_sFor, x_iSeq]
  simp only [x_eVar, List.getElem?_cons_zero, R.bind_ok, items, ofO_some, R.bindS_ok]
  rw [show ([some (W.d (.tuple (ps.map Pc.d))), some (W.d (.int low)), some (W.d (.int high)), some (W.d (.list [])), some (W.d (.int low)), none, none, none] : Mi.Env) = penv (some (.d (.tuple (ps.map Pc.d)))) low high [] low none none none from rfl, e]
  rw [← h3]
  unfold penv lastP
  by_cases hb : beginF ≤ high
  · rw [if_pos hb]
    have c1 := cat_n accF beginF high (by omega)
    simp [hb, c1, x_fin, -List.map_append]
  · rw [if_neg hb, List.append_nil]
    simp [hb, x_fin]
/-! what the parts are -/
theorem hasB_flo {p : Pc} {w : Int} (h : hasB p.lo p.hi w = true) (h1 : -Bey ≤ w) (h2 : w ≤ Bey) : flo p ≤ w ∧ w ≤ topP p := by
  have h : leO p.lo w = true ∧ geO p.hi w = true := by simpa [hasB] using h
  unfold flo topP
  constructor
  · cases e : p.lo with
    | none => exact h1
    | some l => have := h.1; rw [e] at this; exact of_decide_eq_true this
  · cases e : p.hi with
    | none => exact h2
    | some l => have := h.2; rw [e] at this; exact of_decide_eq_true this
theorem flo_hasB {p : Pc} {w : Int} (h1 : flo p ≤ w) (h2 : w ≤ topP p) : hasB p.lo p.hi w = true := by
  have : leO p.lo w = true ∧ geO p.hi w = true := by
    unfold flo at h1
    unfold topP at h2
    constructor
    · cases e : p.lo with
      | none => rfl
      | some l => rw [e] at h1; exact decide_eq_true h1
    · cases e : p.hi with
      | none => rfl
      | some l => rw [e] at h2; exact decide_eq_true h2
  simp [hasB, this]
theorem sep_tail {p : Pc} {r : List Pc} (h : Sep (p :: r)) : Sep r := ⟨by
  cases r with
  | nil => exact True.intro
  | cons q r => exact h.apart.2, fun q hq => h.le q (List.mem_cons_of_mem _ hq)⟩
theorem later_none {w : Int} {r : List Pc} (h : Later w r) : pieceOf r w = none := by
  unfold pieceOf
  rw [List.find?_eq_none]
  intro q hq
  obtain ⟨l, h1, h2⟩ := h q hq
  have : ¬ l ≤ w := by omega
  simp [hasB, h1, leO, this]
structure PtOk (low high : Int) (ps : List Pc) (t : Pt) : Prop where
  lo : low ≤ t.b
  le : t.b ≤ t.e
  hi : t.e ≤ high
  some_ : ∀ p, t.o = some p → p ∈ ps ∧ t.b = mx low (flo p) ∧ t.e = mn high (topP p)
  none_ : t.o = none → ∀ w, t.b ≤ w → w ≤ t.e → -Bey ≤ w → w ≤ Bey → pieceOf ps w = none
theorem parts_sound (low high : Int) : ∀ (ps : List Pc) (begin : Int), Sep ps → low ≤ begin → (∀ q ∈ ps, begin ≤ mx low (flo q)) → ∀ t ∈ partsL low high ps begin, PtOk low high ps t ∧ begin ≤ t.b
  | [], begin, _, hb, _, t, ht => by
    unfold partsL lastP at ht
    split at ht
    · rename_i h1
      obtain rfl := List.mem_singleton.mp ht
      exact ⟨⟨hb, h1, Int.le_refl _, (fun p e => nomatch e), (fun _ w _ _ _ _ => rfl)⟩, Int.le_refl _⟩
    · cases ht
  | p :: r, begin, hs, hb, hq, t, ht => by
    have hl := sep_tail hs
    rw [partsL] at ht
    have m1 := mx_l low (flo p)
    have m2 := mx_r low (flo p)
    have m3 := mn_l high (topP p)
    have m4 := mn_r high (topP p)
    have hqp := hq p List.mem_cons_self
    split at ht
    · rename_i hc
      rcases List.mem_append.mp ht with ht | ht
      · split at ht
        · rename_i hba
          obtain rfl := List.mem_singleton.mp ht
          refine ⟨⟨hb, ?_, ?_, (fun p e => nomatch e), (fun _ w h1 h2 h3 h4 => ?_)⟩, Int.le_refl _⟩
          · show begin ≤ mx low (flo p) - 1
            omega
          · show mx low (flo p) - 1 ≤ high
            omega
          · have h1 : begin ≤ w := h1
            have h2 : w ≤ mx low (flo p) - 1 := h2
            have hw : hasB p.lo p.hi w = false := by
              cases e : hasB p.lo p.hi w with
              | false => rfl
              | true =>
                have := hasB_flo e h3 h4
                rcases mx_or low (flo p) with q | q <;> omega
            have hg : geO p.hi w = true := by
              cases e : p.hi with
              | none => rfl
              | some h =>
                have : topP p = h := by unfold topP; rw [e]
                exact decide_eq_true (by omega)
            have z := later_none (apart_later hs.apart hs.le hg)
            unfold pieceOf at z ⊢
            rw [List.find?_cons, hw]
            exact z
        · cases ht
      · rcases List.mem_cons.mp ht with rfl | ht
        · refine ⟨⟨m1, hc, m3, (fun q e => ?_), (fun e => nomatch e)⟩, hqp⟩
          cases e
          exact ⟨List.mem_cons_self, rfl, rfl⟩
        · have hq2 : ∀ q ∈ r, mn high (topP p) + 1 ≤ mx low (flo q) := fun q hqr => by
            have hr : r ≠ [] := fun e => by rw [e] at hqr; cases hqr
            have : ∃ h, p.hi = some h := by
              cases r with
              | nil => exact absurd rfl hr
              | cons x y => obtain ⟨h, l, h1, _⟩ := hs.apart.1; exact ⟨h, h1⟩
            obtain ⟨h, eh⟩ := this
            have tp : topP p = h := by unfold topP; rw [eh]
            obtain ⟨l, e1, e2⟩ := apart_later (w := h) hs.apart hs.le (by rw [eh]; exact decide_eq_true (Int.le_refl _)) q hqr
            have fq : flo q = l := by unfold flo; rw [e1]
            have := mx_r low (flo q)
            omega
          obtain ⟨k, kb⟩ := parts_sound low high r _ hl (by omega) hq2 t ht
          refine ⟨⟨k.lo, k.le, k.hi, (fun q e => ⟨List.mem_cons_of_mem _ (k.some_ q e).1, (k.some_ q e).2⟩), (fun e w h1 h2 h3 h4 => ?_)⟩, by omega⟩
          have z := k.none_ e w h1 h2 h3 h4
          have k3 := k.hi
          have hw : hasB p.lo p.hi w = false := by
            cases e : hasB p.lo p.hi w with
            | false => rfl
            | true =>
              have := hasB_flo e h3 h4
              rcases mn_or high (topP p) with q | q <;> omega
          unfold pieceOf at z ⊢
          rw [List.find?_cons, hw]
          exact z
    · rename_i hc
      obtain ⟨k, kb⟩ := parts_sound low high r begin hl hb (fun q hqr => hq q (List.mem_cons_of_mem _ hqr)) t ht
      refine ⟨⟨k.lo, k.le, k.hi, (fun q e => ⟨List.mem_cons_of_mem _ (k.some_ q e).1, (k.some_ q e).2⟩), (fun e w h1 h2 h3 h4 => ?_)⟩, kb⟩
      have z := k.none_ e w h1 h2 h3 h4
      have k1 := k.lo
      have k3 := k.hi
      have hw : hasB p.lo p.hi w = false := by
        cases e : hasB p.lo p.hi w with
        | false => rfl
        | true =>
          have := hasB_flo e h3 h4
          rcases mx_or low (flo p) with q | q <;> rcases mn_or high (topP p) with q2 | q2 <;> omega
      unfold pieceOf at z ⊢
      rw [List.find?_cons, hw]
      exact z
theorem parts_cover (low high : Int) : ∀ (ps : List Pc) (begin w : Int), begin ≤ w → w ≤ high → ∃ t ∈ partsL low high ps begin, t.b ≤ w ∧ w ≤ t.e
  | [], begin, w, h1, h2 => ⟨⟨begin, high, none⟩, by unfold partsL lastP; rw [if_pos (by omega)]; exact List.mem_singleton.mpr rfl, h1, h2⟩
  | p :: r, begin, w, h1, h2 => by
    rw [partsL]
    split
    · rename_i hc
      by_cases h3 : w ≤ mn high (topP p)
      · by_cases h4 : w < mx low (flo p)
        · refine ⟨⟨begin, mx low (flo p) - 1, none⟩, List.mem_append_left _ ?_, h1, ?_⟩
          · rw [if_pos (by omega)]
            exact List.mem_singleton.mpr rfl
          · show w ≤ mx low (flo p) - 1
            omega
        · exact ⟨⟨mx low (flo p), mn high (topP p), some p⟩, List.mem_append_right _ List.mem_cons_self, by show mx low (flo p) ≤ w; omega, h3⟩
      · obtain ⟨t, ht, h5⟩ := parts_cover low high r (mn high (topP p) + 1) w (by omega) h2
        exact ⟨t, List.mem_append_right _ (List.mem_cons_of_mem _ ht), h5⟩
    · exact parts_cover low high r begin w h1 h2
/-- a stretch's parts, told -/
theorem parts_all {ps : List Pc} (h : Sep ps) {low high : Int} {t : Pt} (ht : t ∈ partsL low high ps low) : PtOk low high ps t := (parts_sound low high ps low h (Int.le_refl _) (fun q _ => mx_l _ _) t ht).1
theorem PtOk.at_ {ps : List Pc} (h : Sep ps) {low high : Int} {t : Pt} (k : PtOk low high ps t) {w : Int} (h1 : t.b ≤ w) (h2 : w ≤ t.e) (h3 : -Bey ≤ w) (h4 : w ≤ Bey) : pieceOf ps w = t.o := by
  cases e : t.o with
  | none => exact k.none_ e w h1 h2 h3 h4
  | some p =>
    obtain ⟨hm, e1, e2⟩ := k.some_ p e
    have m2 := mx_r low (flo p)
    have m4 := mn_r high (topP p)
    exact piece_uniq h.apart h.le hm (flo_hasB (by omega) (by omega))
end Pure

set_option linter.all false
set_option Elab.async false
set_option maxRecDepth 100000
set_option maxHeartbeats 2000000
/-! The plain law: changes beside one another. -/
namespace Pure
open PySem Mi Mir
theorem fnOf4 (n : Nat) (F : SF) (a b c d : W) (μ : Sto) : fnOf 4 n F [a, b, c, d] μ = fin μ.length (F (some a :: some b :: some c :: some d :: List.replicate (n - 4) none) μ) := rfl
theorem fnOf5 (n : Nat) (F : SF) (a b c d e : W) (μ : Sto) : fnOf 5 n F [a, b, c, d, e] μ = fin μ.length (F (some a :: some b :: some c :: some d :: some e :: List.replicate (n - 5) none) μ) := rfl
def unl (o1 o2 : Option Pc) (b e : Int) : Option Int := if made o1 b ≠ made o2 b then some b else if b + 1 ≤ e ∧ made o1 (b + 1) ≠ made o2 (b + 1) then some (b + 1) else none
theorem unlike_in_spec (o1 o2 : Option Pc) (b e : Int) (h : b ≤ e) (μ : Sto) : g_unlike_in [.d (pD o1), .d (pD o2), .d (.int b), .d (.int e)] μ = .ok (.d (oD (unl o1 o2 b e))) μ := by
  rw [show g_unlike_in = fnOf 4 5 F_unlike_in from rfl, fnOf4]
  by_cases h1 : made o1 b = made o2 b
  · by_cases h2 : b + 1 ≤ e
    · by_cases h3 : made o1 (b + 1) = made o2 (b + 1)
      · simp [F_unlike_in, items, forL, h, h1, h2, h3, made_spec, dNeI, unl, x_fin]
      · simp [F_unlike_in, items, forL, h, h1, h2, h3, made_spec, dNeI, unl, x_fin]
    · simp [F_unlike_in, items, forL, h, h1, h2, made_spec, dNeI, unl, x_fin]
  · simp [F_unlike_in, items, forL, h, h1, made_spec, dNeI, unl, x_fin]
def Bi : SF := sSeq (sAsg 9 (eCall g_unlike_in (aCons (eVar 5) (aCons (eVar 8) (aCons (eVar 6) (aCons (eVar 7) aNil))))))
    (sIf (eNotN (eVar 9)) (sRet (eVar 9)) sNil)
def Ti : TF := Mi.tTup [(tName 6), (tName 7), (tName 8)]
def ienv (x0 x1 x2 : Option W) (t : Pt) (x6 x7 x8 x9 : Option W) : Mi.Env := [x0, x1, x2, some (.d (.int t.b)), some (.d (.int t.e)), some (.d (pD t.o)), x6, x7, x8, x9]
theorem inner_loop (x0 x1 x2 : Option W) (t : Pt) (μ : Sto) : ∀ (us : List Pt) (x6 x7 x8 x9 : Option W), (∀ u ∈ us, u.b ≤ u.e) →
    ((∀ u ∈ us, unl t.o u.o u.b u.e = none) ∧ ∃ y6 y7 y8 y9, forL Ti Bi (us.map Pt.d) (ienv x0 x1 x2 t x6 x7 x8 x9) μ = .nx (ienv x0 x1 x2 t y6 y7 y8 y9) μ) ∨
    ((∃ u ∈ us, unl t.o u.o u.b u.e ≠ none) ∧ ∃ i, forL Ti Bi (us.map Pt.d) (ienv x0 x1 x2 t x6 x7 x8 x9) μ = .rt (.d (.int i)) μ)
  | [], x6, x7, x8, x9, _ => .inl ⟨(fun u hu => by cases hu), x6, x7, x8, x9, rfl⟩
  | u :: us, x6, x7, x8, x9, h => by
    have hu := unlike_in_spec t.o u.o u.b u.e (h u List.mem_cons_self) μ
    have st : forL Ti Bi ((u :: us).map Pt.d) (ienv x0 x1 x2 t x6 x7 x8 x9) μ = (match Bi (ienv x0 x1 x2 t (some (.d (.int u.b))) (some (.d (.int u.e))) (some (.d (pD u.o))) x9) μ with
      | .nx ρ2 μ2 => forL Ti Bi (us.map Pt.d) ρ2 μ2
      | .ct ρ2 μ2 => forL Ti Bi (us.map Pt.d) ρ2 μ2
      | .bk ρ2 μ2 => .nx ρ2 μ2
      | .rt w μ2 => .rt w μ2
      | .er x μ2 => .er x μ2
      | .no => .no) := rfl
    cases e : unl t.o u.o u.b u.e with
    | some i =>
      refine .inr ⟨⟨u, List.mem_cons_self, by rw [e]; exact Option.some_ne_none i⟩, i, ?_⟩
      rw [e] at hu
      rw [st]
      simp [Bi, ienv, hu]
    | none =>
      rw [e] at hu
      have one : Bi (ienv x0 x1 x2 t (some (.d (.int u.b))) (some (.d (.int u.e))) (some (.d (pD u.o))) x9) μ = .nx (ienv x0 x1 x2 t (some (.d (.int u.b))) (some (.d (.int u.e))) (some (.d (pD u.o))) (some (.d .none))) μ := by
        simp [Bi, ienv, hu]
      rw [st, one]
      rcases inner_loop x0 x1 x2 t μ us (some (.d (.int u.b))) (some (.d (.int u.e))) (some (.d (pD u.o))) (some (.d .none)) (fun v hv => h v (List.mem_cons_of_mem _ hv)) with ⟨h1, h2⟩ | ⟨⟨v, hv, h1⟩, h2⟩
      · exact .inl ⟨(fun v hv => (List.mem_cons.mp hv).elim (fun z => z ▸ e) (h1 v)), h2⟩
      · exact .inr ⟨⟨v, List.mem_cons_of_mem _ hv, h1⟩, h2⟩
def Bo : SF := sFor Ti (iSeq (eCall g_parts_of (aCons (eVar 1) (aCons (eVar 3) (aCons (eVar 4) aNil))))) Bi
def To : TF := Mi.tTup [(tName 3), (tName 4), (tName 5)]
theorem outer_loop (x0 : Option W) (qs : List Pc) (hq : Sep qs) (hql : qs.length ≤ 1000) (x2 : Option W) (μ : Sto) : ∀ (ts : List Pt) (x3 x4 x5 x6 x7 x8 x9 : Option W), (∀ t ∈ ts, t.b ≤ t.e) →
    ((∀ t ∈ ts, ∀ u ∈ partsL t.b t.e qs t.b, unl t.o u.o u.b u.e = none) ∧ ∃ ρ', forL To Bo (ts.map Pt.d) [x0, some (.d (.tuple (qs.map Pc.d))), x2, x3, x4, x5, x6, x7, x8, x9] μ = .nx ρ' μ) ∨
    ((∃ t ∈ ts, ∃ u ∈ partsL t.b t.e qs t.b, unl t.o u.o u.b u.e ≠ none) ∧ ∃ i, forL To Bo (ts.map Pt.d) [x0, some (.d (.tuple (qs.map Pc.d))), x2, x3, x4, x5, x6, x7, x8, x9] μ = .rt (.d (.int i)) μ)
  | [], x3, x4, x5, x6, x7, x8, x9, _ => .inl ⟨(fun u hu => by cases hu), _, rfl⟩
  | t :: ts, x3, x4, x5, x6, x7, x8, x9, h => by
    have st : forL To Bo ((t :: ts).map Pt.d) [x0, some (.d (.tuple (qs.map Pc.d))), x2, x3, x4, x5, x6, x7, x8, x9] μ = (match Bo (ienv x0 (some (.d (.tuple (qs.map Pc.d)))) x2 t x6 x7 x8 x9) μ with
      | .nx ρ2 μ2 => forL To Bo (ts.map Pt.d) ρ2 μ2
      | .ct ρ2 μ2 => forL To Bo (ts.map Pt.d) ρ2 μ2
      | .bk ρ2 μ2 => .nx ρ2 μ2
      | .rt w μ2 => .rt w μ2
      | .er x μ2 => .er x μ2
      | .no => .no) := rfl
    have so : Bo (ienv x0 (some (.d (.tuple (qs.map Pc.d)))) x2 t x6 x7 x8 x9) μ = forL Ti Bi ((partsL t.b t.e qs t.b).map Pt.d) (ienv x0 (some (.d (.tuple (qs.map Pc.d)))) x2 t x6 x7 x8 x9) μ := by
      unfold Bo
      rw [x_sFor, x_iSeq, x_eCall]
      simp only [ienv, x_aCons, x_aNil, x_eVar, List.getElem?_cons_zero, List.getElem?_cons_succ, R.bind_ok, parts_of_spec qs t.b t.e μ hql, items, ofO_some, R.bindS_ok]
    rcases inner_loop x0 (some (.d (.tuple (qs.map Pc.d)))) x2 t μ (partsL t.b t.e qs t.b) x6 x7 x8 x9 (fun u hu => (parts_all hq hu).le) with ⟨h1, y6, y7, y8, y9, h2⟩ | ⟨⟨u, hu, h1⟩, i, h2⟩
    · rw [st, so, h2]
      rcases outer_loop x0 qs hq hql x2 μ ts (some (.d (.int t.b))) (some (.d (.int t.e))) (some (.d (pD t.o))) y6 y7 y8 y9 (fun v hv => h v (List.mem_cons_of_mem _ hv)) with ⟨h3, h4⟩ | ⟨⟨v, hv, h3⟩, h4⟩
      · exact .inl ⟨(fun v hv => (List.mem_cons.mp hv).elim (fun z => z ▸ h1) (h3 v)), h4⟩
      · exact .inr ⟨⟨v, List.mem_cons_of_mem _ hv, h3⟩, h4⟩
    · exact .inr ⟨⟨t, List.mem_cons_self, u, hu, h1⟩, i, by rw [st, so, h2]⟩
/-- both make the same of all worths from -Bey to Bey -/
def Same2 (ps qs : List Pc) : Prop := ∀ w, -Bey ≤ w → w ≤ Bey → changedI ps w = changedI qs w
theorem made_p (p : Pc) (w : Int) : made (some p) w = if p.set then p.by_ else w + p.by_ := rfl
theorem made_two {o1 o2 : Option Pc} {b w : Int} (h1 : made o1 b = made o2 b) (h2 : made o1 (b + 1) = made o2 (b + 1)) : made o1 w = made o2 w := by
  have n : ∀ w, made none w = w := fun _ => rfl
  cases o1 with
  | none =>
    cases o2 with
    | none => rfl
    | some q =>
      rw [n, made_p] at h1 h2 ⊢
      cases hq : q.set <;> rw [hq] at h1 h2 <;> simp only [Bool.false_eq_true, if_false, if_true] at h1 h2 ⊢ <;> omega
  | some p =>
    cases o2 with
    | none =>
      rw [n, made_p] at h1 h2 ⊢
      cases hq : p.set <;> rw [hq] at h1 h2 <;> simp only [Bool.false_eq_true, if_false, if_true] at h1 h2 ⊢ <;> omega
    | some q =>
      rw [made_p, made_p] at h1 h2 ⊢
      cases hp : p.set <;> cases hq : q.set <;> rw [hp, hq] at h1 h2 <;> simp only [Bool.false_eq_true, if_false, if_true] at h1 h2 ⊢ <;> omega
theorem first_unlike_spec {ps qs : List Pc} (hp : Sep ps) (hq : Sep qs) (hpl : ps.length ≤ 1000) (hql : qs.length ≤ 1000) (μ : Sto) : ∃ o : Option Int, g_first_unlike [.d (.tuple (ps.map Pc.d)), .d (.tuple (qs.map Pc.d)), .d (.int (-Bey))] μ = .ok (.d (oD o)) μ ∧ (o = none ↔ Same2 ps qs) := by
  have hs : (∀ t ∈ partsL (-Bey) Bey ps (-Bey), ∀ u ∈ partsL t.b t.e qs t.b, unl t.o u.o u.b u.e = none) ↔ Same2 ps qs := by
    constructor
    · intro h w h1 h2
      obtain ⟨t, ht, h3, h4⟩ := parts_cover (-Bey) Bey ps (-Bey) w h1 h2
      have kt := parts_all hp ht
      obtain ⟨u, hu, h5, h6⟩ := parts_cover t.b t.e qs t.b w h3 h4
      have ku := parts_all hq hu
      have z := h t ht u hu
      unfold changedI
      rw [kt.at_ hp h3 h4 h1 h2, ku.at_ hq h5 h6 h1 h2]
      unfold unl at z
      split at z
      · cases z
      · rename_i z1
        split at z
        · cases z
        · rename_i z2
          by_cases hw : w = u.b
          · rw [hw]
            exact Decidable.not_not.mp z1
          · refine made_two (Decidable.not_not.mp z1) (Decidable.not_not.mp fun z3 => z2 ⟨by omega, z3⟩)
    · intro h t ht u hu
      have kt := parts_all hp ht
      have ku := parts_all hq hu
      have b1 := kt.lo
      have b2 := kt.hi
      have b3 := ku.lo
      have b4 := ku.hi
      have b5 := ku.le
      have at2 : ∀ w, u.b ≤ w → w ≤ u.e → made t.o w = made u.o w := fun w h1 h2 => by
        have := h w (by omega) (by omega)
        unfold changedI at this
        rw [kt.at_ hp (by omega) (by omega) (by omega) (by omega), ku.at_ hq h1 h2 (by omega) (by omega)] at this
        exact this
      unfold unl
      rw [if_neg (fun z => z (at2 u.b (Int.le_refl _) b5)), if_neg (fun z => z.2 (at2 (u.b + 1) (by omega) z.1))]
  rw [show g_first_unlike = fnOf 3 10 F_first_unlike from rfl, fnOf3]
  have st : F_first_unlike = sSeq (sFor To (iSeq (eCall g_parts_of (aCons (eVar 0) (aCons (eVar 2) (aCons (eInt (100000000000000000000000000000000)) aNil))))) Bo) (sRet eNon) := rfl
  rw [st, x_sSeq, x_sFor, x_iSeq, x_eCall]
  simp only [x_aCons, x_aNil, x_eVar, List.getElem?_cons_zero, List.getElem?_cons_succ, R.bind_ok, x_eInt, List.replicate, Nat.reduceSub]
  rw [show (100000000000000000000000000000000 : Int) = Bey from rfl, parts_of_spec ps (-Bey) Bey μ hpl]
  simp only [R.bind_ok, items, ofO_some, R.bindS_ok]
  rcases outer_loop (some (.d (.tuple (ps.map Pc.d)))) qs hq hql (some (.d (.int (-Bey)))) μ (partsL (-Bey) Bey ps (-Bey)) none none none none none none none (fun t ht => (parts_all hp ht).le) with ⟨h1, ρ', h2⟩ | ⟨⟨t, ht, u, hu, h1⟩, i, h2⟩
  · refine ⟨none, ?_, by simpa using hs.mp h1⟩
    rw [h2]
    simp [x_fin]
  · refine ⟨some i, ?_, ⟨(fun z => nomatch z), fun z => absurd (hs.mpr z t ht u hu) h1⟩⟩
    rw [h2]
    simp [x_fin]
section
variable {μ : Sto} {k k2 : Nat} {ps qs : List Pc}
theorem like_spec (h : VAt μ k (.tuple (ps.map Pc.d))) (h2 : VAt μ k2 (.tuple (qs.map Pc.d))) (hp : Sep ps) (hq : Sep qs) (hpl : ps.length ≤ 1000) (hql : qs.length ≤ 1000) : ∃ b : Bool, g_Change__like [.m k, .m k2] μ = .ok (.d (.bool b)) μ ∧ (b = true ↔ Same2 ps qs) := by
  obtain ⟨o, e, ho⟩ := first_unlike_spec hp hq hpl hql μ
  refine ⟨o.isNone, ?_, by rw [← ho]; cases o <;> simp⟩
  rw [show g_Change__like = fnOf 2 2 F_Change__like from rfl, fnOf2]
  have hb : (100000000000000000000000000000000 : Int) = Bey := rfl
  cases o with
  | none =>
    have e : g_first_unlike [.d (.tuple (ps.map Pc.d)), .d (.tuple (qs.map Pc.d)), .d (.int (-Bey))] μ = .ok (.d .none) μ := e
    simp [F_Change__like, h.mins, h2.mins, hb, e, x_fin]
  | some i =>
    have e : g_first_unlike [.d (.tuple (ps.map Pc.d)), .d (.tuple (qs.map Pc.d)), .d (.int (-Bey))] μ = .ok (.d (.int i)) μ := e
    simp [F_Change__like, h.mins, h2.mins, hb, e, x_fin]
theorem likeD_spec (d : D) : g_Change__like [.m k, .d d] μ = .er ⟨"Unlike", none⟩ μ := by
  rw [show g_Change__like = fnOf 2 2 F_Change__like from rfl, fnOf2]
  simp [F_Change__like, fin_er]
end
end Pure

set_option linter.all false
set_option Elab.async false
set_option maxRecDepth 100000
set_option maxHeartbeats 2000000
/-! The plain law: whether a change settles. -/
namespace Pure
open PySem Mi Mir
def plD : D := .tuple [.str "place"]
theorem pl0 : dIx plD (.int 0) = some (.str "place") := rfl
theorem ne_pu : dNe (.str "place") (.str "up") = some (.bool true) := by kernel_rfl
theorem eq_pu : dEq (.str "place") (.str "up") = some (.bool false) := by kernel_rfl
theorem eq_pf : dEq (.str "place") (.str "first") = some (.bool false) := by kernel_rfl
theorem eq_pp : dEq (.str "place") (.str "place") = some (.bool true) := by kernel_rfl
theorem met_part_pl (a b : Int) (μ : Sto) : g_met_part [.d plD, .d (.int a), .d (.int b)] μ = .ok (.d (.tuple [.int a, .int b])) μ := by
  rw [show g_met_part = fnOf 3 4 F_met_part from rfl, fnOf3]
  simp [F_met_part, pl0, ne_pu, x_fin]
theorem again_pl (a b : D) (μ : Sto) : g_again [.d plD, .d a, .d b] μ = .ok (.d (.bool true)) μ := by
  rw [show g_again = fnOf 3 3 F_again from rfl, fnOf3]
  simp [F_again, pl0, eq_pu, eq_pp, x_fin]
theorem has_piece_spec (ps : List Pc) (w : Int) (μ : Sto) : g_has_piece [.d (.tuple (ps.map Pc.d)), .d (.int w)] μ = .ok (.d (.bool (pieceOf ps w).isSome)) μ := by
  rw [show g_has_piece = fnOf 2 2 F_has_piece from rfl, fnOf2]
  simp [F_has_piece, piece_of_spec, isNonW_p, x_fin]
def Bt : SF := sIf (eNotN (eVar 8)) (sRet (eOp dSub (eVar 6) (eVar 4))) sNil
def Tt : TF := Mi.tTup [(tName 6), (tName 7), (tName 8)]
theorem twa_loop (x0 x1 x2 x3 : Option W) (s : Int) (x5 : Option W) (μ : Sto) : ∀ (us : List Pt) (x6 x7 x8 : Option W),
    ((∀ u ∈ us, u.o = none) ∧ ∃ ρ', forL Tt Bt (us.map Pt.d) [x0, x1, x2, x3, some (.d (.int s)), x5, x6, x7, x8] μ = .nx ρ' μ) ∨
    ((∃ u ∈ us, u.o ≠ none) ∧ ∃ i, forL Tt Bt (us.map Pt.d) [x0, x1, x2, x3, some (.d (.int s)), x5, x6, x7, x8] μ = .rt (.d (.int i)) μ)
  | [], x6, x7, x8 => .inl ⟨(fun u hu => by cases hu), _, rfl⟩
  | u :: us, x6, x7, x8 => by
    have st : forL Tt Bt ((u :: us).map Pt.d) [x0, x1, x2, x3, some (.d (.int s)), x5, x6, x7, x8] μ = (match Bt [x0, x1, x2, x3, some (.d (.int s)), x5, some (.d (.int u.b)), some (.d (.int u.e)), some (.d (pD u.o))] μ with
      | .nx ρ2 μ2 => forL Tt Bt (us.map Pt.d) ρ2 μ2
      | .ct ρ2 μ2 => forL Tt Bt (us.map Pt.d) ρ2 μ2
      | .bk ρ2 μ2 => .nx ρ2 μ2
      | .rt w μ2 => .rt w μ2
      | .er x μ2 => .er x μ2
      | .no => .no) := rfl
    cases e : u.o with
    | some p =>
      refine .inr ⟨⟨u, List.mem_cons_self, by rw [e]; exact Option.some_ne_none p⟩, u.b - s, ?_⟩
      rw [st, e]
      have : isNonW (.d (pD (some p))) = false := rfl
      simp [Bt, this]
    | none =>
      rw [st, e]
      have one : Bt [x0, x1, x2, x3, some (.d (.int s)), x5, some (.d (.int u.b)), some (.d (.int u.e)), some (.d (pD none))] μ = .nx [x0, x1, x2, x3, some (.d (.int s)), x5, some (.d (.int u.b)), some (.d (.int u.e)), some (.d (pD none))] μ := by
        simp [Bt, pD]
      rw [one]
      rcases twa_loop x0 x1 x2 x3 s x5 μ us (some (.d (.int u.b))) (some (.d (.int u.e))) (some (.d (pD none))) with ⟨h1, h2⟩ | ⟨⟨v, hv, h1⟩, h2⟩
      · exact .inl ⟨(fun v hv => (List.mem_cons.mp hv).elim (fun z => z ▸ e) (h1 v)), h2⟩
      · exact .inr ⟨⟨v, List.mem_cons_of_mem _ hv, h1⟩, h2⟩
/-- no worth of the stretch, moved, is in a piece -/
def Off (ps : List Pc) (b e s : Int) : Prop := b + s ≤ Bey → ∀ u ∈ partsL (b + s) (mn (e + s) Bey) ps (b + s), u.o = none
theorem twice_added_spec (ps : List Pc) (hl : ps.length ≤ 1000) (b e s : Int) (μ : Sto) : ∃ o : Option Int, g_twice_added [.d (.tuple (ps.map Pc.d)), .d plD, .d (.int b), .d (.int e), .d (.int s)] μ = .ok (.d (oD o)) μ ∧ (o = none ↔ Off ps b e s) := by
  rw [show g_twice_added = fnOf 5 9 F_twice_added from rfl, fnOf5]
  have st : F_twice_added = sSeq (sIf (eAnd (eOp dEq (eOp dIx (eVar 1) (eInt 0)) (eStr "up")) (eOp dLt (eVar 4) (eInt 0))) (sRet eNon) sNil)
    (sSeq (sAsg 5 (eIf (eOr (eOp dNe (eOp dIx (eVar 1) (eInt 0)) (eStr "up")) (eIsN (eOp dIx (eVar 1) (eInt 2)))) (eInt (100000000000000000000000000000000)) (eOp dIx (eVar 1) (eInt 2))))
    (sSeq (sFor Tt (iSeq (eIf (eOp dLe (eOp dAdd (eVar 2) (eVar 4)) (eVar 5)) (eCall g_parts_of (aCons (eVar 0) (aCons (eOp dAdd (eVar 2) (eVar 4)) (aCons (eBlt bMin2 (aCons (eOp dAdd (eVar 3) (eVar 4)) (aCons (eVar 5) aNil))) aNil)))) (eLst aNil))) Bt)
    (sRet eNon))) := rfl
  have hb : (100000000000000000000000000000000 : Int) = Bey := rfl
  have pp := parts_of_spec ps (b + s) (mn (e + s) Bey) μ hl
  rw [st]
  by_cases hc : b + s ≤ Bey
  · rcases twa_loop (some (.d (.tuple (ps.map Pc.d)))) (some (.d plD)) (some (.d (.int b))) (some (.d (.int e))) s (some (.d (.int Bey))) μ (partsL (b + s) (mn (e + s) Bey) ps (b + s)) none none none with ⟨h1, ρ', h2⟩ | ⟨⟨u, hu, h1⟩, i, h2⟩
    · refine ⟨none, ?_, ⟨fun _ _ => h1, fun _ => rfl⟩⟩
      simp [pl0, eq_pu, ne_pu, hb, hc, pp, bMin2_mn, items, h2, x_fin]
    · refine ⟨some i, ?_, ⟨(fun z => nomatch z), fun z => absurd (z hc u hu) h1⟩⟩
      simp [pl0, eq_pu, ne_pu, hb, hc, pp, bMin2_mn, items, h2, x_fin]
  · refine ⟨none, ?_, ⟨fun _ z => absurd z hc, fun _ => rfl⟩⟩
    simp [pl0, eq_pu, ne_pu, hb, hc, items, forL, x_fin]
def Bk : SF := (sSeq (sIf (eOr (eIsN (eVar 8)) (eOp dEq (eOp dIx (eVar 3) (eInt 0)) (eStr "first"))) sCont sNil)
    (sSeq (sIf (eOp dEq (eOp dIx (eVar 8) (eInt 2)) (eStr "add")) (sAsg 9 (eCall g_twice_added (aCons (eVar 2) (aCons (eVar 3) (aCons (eVar 6) (aCons (eVar 7) (aCons (eOp dIx (eVar 8) (eInt 3)) aNil))))))) (sSeq (sAsg 10 (eAnd (eCall g_has_piece (aCons (eVar 2) (aCons (eOp dIx (eVar 8) (eInt 3)) aNil))) (eCall g_again (aCons (eVar 3) (aCons (eVar 6) (aCons (eOp dIx (eVar 8) (eInt 3)) aNil))))))
    (sAsg 9 (eIf (eVar 10) (eVar 6) eNon))))
    (sIf (eNotN (eVar 9)) (sRet (eVar 9)) sNil)))
/-- a part from which no worth comes to a piece -/
def PtOff (ps : List Pc) (t : Pt) : Prop := ∀ p, t.o = some p → if p.set = true then pieceOf ps p.by_ = none else Off ps t.b t.e p.by_
def kenv (x0 x1 : Option W) (ps : List Pc) (x4 x5 x6 x7 x8 x9 x10 : Option W) : Mi.Env := [x0, x1, some (.d (.tuple (ps.map Pc.d))), some (.d plD), x4, x5, x6, x7, x8, x9, x10]
theorem kept_turn (x0 x1 : Option W) (ps : List Pc) (hl : ps.length ≤ 1000) (x4 x5 x9 x10 : Option W) (t : Pt) (μ : Sto) :
    (PtOff ps t ∧ ∃ y9 y10, Bk (kenv x0 x1 ps x4 x5 (some (.d (.int t.b))) (some (.d (.int t.e))) (some (.d (pD t.o))) x9 x10) μ = .nx (kenv x0 x1 ps x4 x5 (some (.d (.int t.b))) (some (.d (.int t.e))) (some (.d (pD t.o))) y9 y10) μ) ∨
    (PtOff ps t ∧ Bk (kenv x0 x1 ps x4 x5 (some (.d (.int t.b))) (some (.d (.int t.e))) (some (.d (pD t.o))) x9 x10) μ = .ct (kenv x0 x1 ps x4 x5 (some (.d (.int t.b))) (some (.d (.int t.e))) (some (.d (pD t.o))) x9 x10) μ) ∨
    (¬ PtOff ps t ∧ ∃ i, Bk (kenv x0 x1 ps x4 x5 (some (.d (.int t.b))) (some (.d (.int t.e))) (some (.d (pD t.o))) x9 x10) μ = .rt (.d (.int i)) μ) := by
  cases e : t.o with
  | none =>
    refine .inr (.inl ⟨(fun p h => by rw [e] at h; cases h), ?_⟩)
    simp [Bk, kenv, pD]
  | some p =>
    have nn : isNonW (.d p.d) = false := rfl
    have i2 := ix2d p
    have i3 := ix3d p
    have q := eq_add p.set
    cases hs : p.set with
    | true =>
      rw [hs] at i2 q
      have hp := has_piece_spec ps p.by_ μ
      cases hh : pieceOf ps p.by_ with
      | none =>
        refine .inl ⟨(fun p' h => by rw [e] at h; cases h; rw [if_pos hs]; exact hh), some (.d .none), some (.d (.bool false)), ?_⟩
        rw [hh] at hp
        simp [Bk, kenv, pD, nn, i2, i3, q, pl0, eq_pf, hp]
      | some p2 =>
        refine .inr (.inr ⟨(fun z => by have := z p e; rw [if_pos hs, hh] at this; cases this), t.b, ?_⟩)
        rw [hh] at hp
        simp [Bk, kenv, pD, nn, i2, i3, q, pl0, eq_pf, hp, again_pl]
    | false =>
      rw [hs] at i2 q
      obtain ⟨o, ho, hi⟩ := twice_added_spec ps hl t.b t.e p.by_ μ
      cases o with
      | none =>
        refine .inl ⟨(fun p' h => by rw [e] at h; cases h; rw [if_neg (by rw [hs]; decide)]; exact hi.mp rfl), some (.d .none), x10, ?_⟩
        simp [Bk, kenv, pD, nn, i2, i3, q, pl0, eq_pf, ho]
      | some i =>
        refine .inr (.inr ⟨(fun z => by have := z p e; rw [if_neg (by rw [hs]; decide)] at this; cases hi.mpr this), i, ?_⟩)
        simp [Bk, kenv, pD, nn, i2, i3, q, pl0, eq_pf, ho]
theorem kept_loop (x0 x1 : Option W) (ps : List Pc) (hl : ps.length ≤ 1000) (x4 x5 : Option W) (μ : Sto) : ∀ (ts : List Pt) (x6 x7 x8 x9 x10 : Option W),
    ((∀ t ∈ ts, PtOff ps t) ∧ ∃ ρ', forL Tt Bk (ts.map Pt.d) (kenv x0 x1 ps x4 x5 x6 x7 x8 x9 x10) μ = .nx ρ' μ) ∨
    ((∃ t ∈ ts, ¬ PtOff ps t) ∧ ∃ i, forL Tt Bk (ts.map Pt.d) (kenv x0 x1 ps x4 x5 x6 x7 x8 x9 x10) μ = .rt (.d (.int i)) μ)
  | [], x6, x7, x8, x9, x10 => .inl ⟨(fun u hu => by cases hu), _, rfl⟩
  | t :: ts, x6, x7, x8, x9, x10 => by
    have st : forL Tt Bk ((t :: ts).map Pt.d) (kenv x0 x1 ps x4 x5 x6 x7 x8 x9 x10) μ = (match Bk (kenv x0 x1 ps x4 x5 (some (.d (.int t.b))) (some (.d (.int t.e))) (some (.d (pD t.o))) x9 x10) μ with
      | .nx ρ2 μ2 => forL Tt Bk (ts.map Pt.d) ρ2 μ2
      | .ct ρ2 μ2 => forL Tt Bk (ts.map Pt.d) ρ2 μ2
      | .bk ρ2 μ2 => .nx ρ2 μ2
      | .rt w μ2 => .rt w μ2
      | .er x μ2 => .er x μ2
      | .no => .no) := rfl
    rcases kept_turn x0 x1 ps hl x4 x5 x9 x10 t μ with ⟨h0, y9, y10, e⟩ | ⟨h0, e⟩ | ⟨h0, i, e⟩
    · rw [st, e]
      rcases kept_loop x0 x1 ps hl x4 x5 μ ts (some (.d (.int t.b))) (some (.d (.int t.e))) (some (.d (pD t.o))) y9 y10 with ⟨h1, h2⟩ | ⟨⟨v, hv, h1⟩, h2⟩
      · exact .inl ⟨(fun v hv => (List.mem_cons.mp hv).elim (fun z => z ▸ h0) (h1 v)), h2⟩
      · exact .inr ⟨⟨v, List.mem_cons_of_mem _ hv, h1⟩, h2⟩
    · rw [st, e]
      rcases kept_loop x0 x1 ps hl x4 x5 μ ts (some (.d (.int t.b))) (some (.d (.int t.e))) (some (.d (pD t.o))) x9 x10 with ⟨h1, h2⟩ | ⟨⟨v, hv, h1⟩, h2⟩
      · exact .inl ⟨(fun v hv => (List.mem_cons.mp hv).elim (fun z => z ▸ h0) (h1 v)), h2⟩
      · exact .inr ⟨⟨v, List.mem_cons_of_mem _ hv, h1⟩, h2⟩
    · exact .inr ⟨⟨t, List.mem_cons_self, h0⟩, i, by rw [st, e]⟩
def AllOff (ps : List Pc) : Prop := ∀ t ∈ partsL (-Bey) Bey ps (-Bey), PtOff ps t
theorem first_kept_spec (ps : List Pc) (hl : ps.length ≤ 1000) (μ : Sto) : ∃ o : Option Int, g_first_kept [.d (.tuple (ps.map Pc.d))] μ = .ok (.d (oD o)) μ ∧ (o = none ↔ AllOff ps) := by
  have hb : (100000000000000000000000000000000 : Int) = Bey := rfl
  have hbb : -Bey ≤ Bey := by decide
  have pp := parts_of_spec ps (-Bey) Bey μ hl
  have st : F_twice_of = sSeq (sTgt (Mi.tTup [(tName 2), (tName 3)]) (eVar 0))
    (sSeq (sTgt (Mi.tTup [(tName 4), (tName 5)]) (eCall g_met_part (aCons (eVar 3) (aCons (eVar 1) (aCons (eInt (100000000000000000000000000000000)) aNil)))))
    (sSeq (sFor Tt (iSeq (eIf (eOp dLe (eVar 4) (eVar 5)) (eCall g_parts_of (aCons (eVar 2) (aCons (eVar 4) (aCons (eVar 5) aNil)))) (eLst aNil))) Bk)
    (sRet eNon))) := rfl
  have tw : ∃ o : Option Int, g_twice_of [.d (.tuple [.tuple (ps.map Pc.d), plD]), .d (.int (-Bey))] μ = .ok (.d (oD o)) μ ∧ (o = none ↔ AllOff ps) := by
    rw [show g_twice_of = fnOf 2 11 F_twice_of from rfl, fnOf2, st]
    rcases kept_loop (some (.d (.tuple [.tuple (ps.map Pc.d), plD]))) (some (.d (.int (-Bey)))) ps hl (some (.d (.int (-Bey)))) (some (.d (.int Bey))) μ (partsL (-Bey) Bey ps (-Bey)) none none none none none with ⟨h1, ρ', h2⟩ | ⟨⟨t, ht, h1⟩, i, h2⟩
    · refine ⟨none, ?_, ⟨fun _ => h1, fun _ => rfl⟩⟩
      unfold kenv at h2
      simp [met_part_pl, hb, hbb, pp, items, h2, x_fin]
    · refine ⟨some i, ?_, ⟨(fun z => nomatch z), fun z => absurd (z t ht) h1⟩⟩
      unfold kenv at h2
      simp [met_part_pl, hb, hbb, pp, items, h2, x_fin]
  obtain ⟨o, e, ho⟩ := tw
  refine ⟨o, ?_, ho⟩
  rw [show g_first_kept = fnOf 1 1 F_first_kept from rfl, fnOf1]
  unfold plD at e
  simp [F_first_kept, hb, e, x_fin]
theorem bool_spec {μ : Sto} {k : Nat} {ps : List Pc} (h : VAt μ k (.tuple (ps.map Pc.d))) (hl : ps.length ≤ 1000) : ∃ b : Bool, g_Change____bool__ [.m k] μ = .ok (.d (.bool b)) μ ∧ (b = true ↔ AllOff ps) := by
  obtain ⟨o, e, ho⟩ := first_kept_spec ps hl μ
  refine ⟨o.isNone, ?_, by rw [← ho]; cases o <;> simp⟩
  rw [show g_Change____bool__ = fnOf 1 1 F_Change____bool__ from rfl, fnOf1]
  cases o with
  | none => simp [F_Change____bool__, h.mins, e, bBool, truD, x_fin]
  | some i => simp [F_Change____bool__, h.mins, e, bBool, truD, x_fin]
end Pure

set_option linter.all false
set_option Elab.async false
set_option maxRecDepth 100000
set_option maxHeartbeats 2000000
/-! The plain law: small changes: what they make far away; moved, turned, with one piece more or less. -/
namespace Pure
open PySem Mi Mir
/-- the law's change -/
structure Sm (ps : List Pc) : Prop where
  ch : ChOk ps
  sm : ∀ p ∈ ps, PcSm 9 p
  three : ps.length ≤ 3
theorem Sm.sep {ps : List Pc} (h : Sm ps) : Sep ps := sep_of h.ch
theorem Sm.len {ps : List Pc} (h : Sm ps) : ps.length ≤ 1000 := Nat.le_trans h.three (by decide)
theorem has_low {p : Pc} (h : PcSm 9 p) {w : Int} (hw : w ≤ -60) : hasB p.lo p.hi w = hasB p.lo p.hi (-60) := by
  unfold hasB
  congr 1
  · cases e : p.lo with
    | none => rfl
    | some l =>
      have := h.lo l e
      show decide (l ≤ w) = decide (l ≤ -60)
      rw [decide_eq_false (by omega), decide_eq_false (by omega)]
  · cases e : p.hi with
    | none => rfl
    | some l =>
      have := h.hi l e
      show decide (w ≤ l) = decide (-60 ≤ l)
      rw [decide_eq_true (by omega), decide_eq_true (by omega)]
theorem has_high {p : Pc} (h : PcSm 9 p) {w : Int} (hw : 60 ≤ w) : hasB p.lo p.hi w = hasB p.lo p.hi 60 := by
  unfold hasB
  congr 1
  · cases e : p.lo with
    | none => rfl
    | some l =>
      have := h.lo l e
      show decide (l ≤ w) = decide (l ≤ 60)
      rw [decide_eq_true (by omega), decide_eq_true (by omega)]
  · cases e : p.hi with
    | none => rfl
    | some l =>
      have := h.hi l e
      show decide (w ≤ l) = decide (60 ≤ l)
      rw [decide_eq_false (by omega), decide_eq_false (by omega)]
theorem of_find {ps : List Pc} {w v : Int} (h : ∀ p ∈ ps, hasB p.lo p.hi w = hasB p.lo p.hi v) : pieceOf ps w = pieceOf ps v := by
  unfold pieceOf
  induction ps with
  | nil => rfl
  | cons p r ih =>
    rw [List.find?_cons, List.find?_cons, h p List.mem_cons_self, ih fun q hq => h q (List.mem_cons_of_mem _ hq)]
theorem Sm.low {ps : List Pc} (h : Sm ps) {w : Int} (hw : w ≤ -60) : pieceOf ps w = pieceOf ps (-60) := of_find fun p hp => has_low (h.sm p hp) hw
theorem Sm.high {ps : List Pc} (h : Sm ps) {w : Int} (hw : 60 ≤ w) : pieceOf ps w = pieceOf ps 60 := of_find fun p hp => has_high (h.sm p hp) hw
theorem bey_big : (1000000 : Int) ≤ Bey := by decide
/-- alike on a short stretch: alike -/
theorem same_small {ps qs : List Pc} (hp : Sm ps) (hq : Sm qs) : Same2 ps qs ↔ ∀ w, -90 ≤ w → w < 120 → changedI ps w = changedI qs w := by
  have bb := bey_big
  refine ⟨fun h w h1 h2 => h w (by omega) (by omega), fun h w h1 h2 => ?_⟩
  by_cases h3 : -90 ≤ w
  · by_cases h4 : w < 120
    · exact h w h3 h4
    · have e1 := h 100 (by decide) (by decide)
      have e2 := h 101 (by decide) (by decide)
      unfold changedI at e1 e2 ⊢
      rw [hp.high (w := 100) (by decide), hq.high (w := 100) (by decide)] at e1
      rw [hp.high (w := 101) (by decide), hq.high (w := 101) (by decide)] at e2
      rw [hp.high (w := w) (by omega), hq.high (w := w) (by omega)]
      exact made_two (b := 100) e1 e2
  · have e1 := h (-90) (by decide) (by decide)
    have e2 := h (-89) (by decide) (by decide)
    unfold changedI at e1 e2 ⊢
    rw [hp.low (w := -90) (by decide), hq.low (w := -90) (by decide)] at e1
    rw [hp.low (w := -89) (by decide), hq.low (w := -89) (by decide)] at e2
    rw [hp.low (w := w) (by omega), hq.low (w := w) (by omega)]
    exact made_two (b := -90) e1 e2
def Settles (ps : List Pc) : Prop := ∀ w, -90 ≤ w → w < 120 → pieceOf ps w = none ∨ pieceOf ps (changedI ps w) = none
theorem Sm.flo {ps : List Pc} (h : Sm ps) : ∀ p ∈ ps, -Bey ≤ flo p := fun p hp => by
  have bb := bey_big
  unfold Pure.flo
  cases el : p.lo with
  | none => exact Int.le_refl _
  | some l => have := (h.sm p hp).lo l el; show -Bey ≤ l; omega
theorem off_iff {ps : List Pc} (h : Sep ps) (hf : ∀ p ∈ ps, -Bey ≤ flo p) {b e s : Int} : Off ps b e s ↔ ∀ v, b + s ≤ v → v ≤ mn (e + s) Bey → -Bey ≤ v → pieceOf ps v = none := by
  have m1 := mn_l (e + s) Bey
  have m2 := mn_r (e + s) Bey
  constructor
  · intro ho v h1 h2 h3
    obtain ⟨t, ht, h4, h5⟩ := parts_cover (b + s) (mn (e + s) Bey) ps (b + s) v h1 h2
    have k := parts_all h ht
    rw [k.at_ h h4 h5 h3 (by omega)]
    exact ho (by omega) t ht
  · intro hv hc t ht
    have k := parts_all h ht
    have k1 := k.lo
    have k2 := k.le
    have k3 := k.hi
    cases e0 : t.o with
    | none => rfl
    | some p =>
      obtain ⟨hm, e1, e2⟩ := k.some_ p e0
      have f1 := mx_r (b + s) (flo p)
      have f2 := mn_r (mn (e + s) Bey) (topP p)
      have hh := flo_hasB (p := p) (w := t.e) (by omega) (by omega)
      have := hf p hm
      have z := hv t.e (by omega) k3 (by omega)
      rw [piece_uniq h.apart h.le hm hh] at z
      cases z
theorem settles_iff {ps : List Pc} (h : Sm ps) : AllOff ps ↔ Settles ps := by
  have bb := bey_big
  have hs := h.sep
  constructor
  · intro ho w h1 h2
    obtain ⟨t, ht, h4, h5⟩ := parts_cover (-Bey) Bey ps (-Bey) w (by omega) (by omega)
    have k := parts_all hs ht
    have at_ := k.at_ hs h4 h5 (by omega) (by omega)
    cases e : t.o with
    | none => exact .inl (by rw [at_, e])
    | some p =>
      refine .inr ?_
      have z := ho t ht p e
      have hm := (k.some_ p e).1
      have sm := h.sm p hm
      unfold changedI
      rw [at_, e, made_p]
      cases hset : p.set with
      | true =>
        rw [if_pos hset] at z
        rw [if_pos rfl]
        exact z
      | false =>
        rw [if_neg (by rw [hset]; decide)] at z
        have a1 := sm.add hset
        have := (off_iff hs h.flo).mp z (w + p.by_) (by omega) (by
          have k3 := k.hi
          rcases mn_or (t.e + p.by_) Bey with q | q <;> omega) (by omega)
        simpa using this
  · intro hw t ht p e
    have k := parts_all hs ht
    obtain ⟨hm, e1, e2⟩ := k.some_ p e
    have sm := h.sm p hm
    have k1 := k.lo
    have k2 := k.le
    have k3 := k.hi
    have pin : ∀ w, t.b ≤ w → w ≤ t.e → pieceOf ps w = some p := fun w h1 h2 => by rw [k.at_ hs h1 h2 (by omega) (by omega), e]
    have f1 : t.b ≤ 60 := by
      rw [e1]
      rcases mx_or (-Bey) (flo p) with q | q
      · omega
      · rw [q]
        unfold flo
        cases el : p.lo with
        | none => show -Bey ≤ 60; omega
        | some l => have := sm.lo l el; show l ≤ 60; omega
    have f2 : -60 ≤ t.e := by
      rw [e2]
      rcases mn_or Bey (topP p) with q | q
      · omega
      · rw [q]
        unfold topP
        cases el : p.hi with
        | none => show -60 ≤ Bey; omega
        | some l => have := sm.hi l el; show -60 ≤ l; omega
    cases hset : p.set with
    | true =>
      rw [if_pos rfl]
      have hx : ∃ w, -90 ≤ w ∧ w < 120 ∧ t.b ≤ w ∧ w ≤ t.e := by
        by_cases q : t.b < -60
        · exact ⟨-60, by decide, by decide, by omega, f2⟩
        · exact ⟨t.b, by omega, by omega, Int.le_refl _, k2⟩
      obtain ⟨w, h1, h2, h3, h4⟩ := hx
      have hp := pin w h3 h4
      rcases hw w h1 h2 with z | z
      · rw [hp] at z; cases z
      · unfold changedI at z
        rw [hp, made_p, if_pos hset] at z
        exact z
    | false =>
      rw [if_neg (by decide)]
      refine (off_iff hs h.flo).mpr fun v h1 h2 h3 => ?_
      have a1 := sm.add hset
      have m1 := mn_l (t.e + p.by_) Bey
      have ch : ∀ w, pieceOf ps w = some p → changedI ps w = w + p.by_ := fun w hp => by
        unfold changedI
        rw [hp, made_p, if_neg (by rw [hset]; decide)]
      have hp := pin (v - p.by_) (by omega) (by omega)
      by_cases g1 : v - p.by_ < -90
      · have hp2 : pieceOf ps (-90) = some p := by rw [h.low (by decide), ← h.low (w := v - p.by_) (by omega)]; exact hp
        rcases hw (-90) (by decide) (by decide) with z | z
        · rw [hp2] at z; cases z
        · rw [ch _ hp2, h.low (by omega)] at z
          rw [h.low (by omega)]
          exact z
      · by_cases g2 : v - p.by_ < 120
        · rcases hw (v - p.by_) (by omega) g2 with z | z
          · rw [hp] at z; cases z
          · rw [ch _ hp] at z
            rw [show v - p.by_ + p.by_ = v by omega] at z
            exact z
        · have hp2 : pieceOf ps 100 = some p := by rw [h.high (by decide), ← h.high (w := v - p.by_) (by omega)]; exact hp
          rcases hw 100 (by decide) (by decide) with z | z
          · rw [hp2] at z; cases z
          · rw [ch _ hp2, h.high (by omega)] at z
            rw [h.high (by omega)]
            exact z
/-! moved, turned -/
theorem mv_ok {p : Pc} (h : PcOk p) (hs : PcSm 9 p) {t : Int} (h1 : -50 ≤ t) (h2 : t ≤ 50) : PcOk (p.mv t) := by
  have fb := far_big
  refine ⟨fun i e => ?_, fun i e => ?_, fun i j e1 e2 => ?_, ?_, ?_, fun hset => ?_⟩
  · unfold Pc.mv at e
    cases el : p.lo with
    | none => rw [el] at e; cases e
    | some l => rw [el] at e; have e : l + t = i := Option.some.inj e; have := hs.lo l el; omega
  · unfold Pc.mv at e
    cases el : p.hi with
    | none => rw [el] at e; cases e
    | some l => rw [el] at e; have e : l + t = i := Option.some.inj e; have := hs.hi l el; omega
  · unfold Pc.mv at e1 e2
    cases el : p.lo with
    | none => rw [el] at e1; cases e1
    | some l =>
      cases eh : p.hi with
      | none => rw [eh] at e2; cases e2
      | some k =>
        rw [el] at e1
        rw [eh] at e2
        have e1 : l + t = i := Option.some.inj e1
        have e2 : k + t = j := Option.some.inj e2
        have := h.le l k el eh
        omega
  · show -far ≤ if p.set = true then p.by_ + t else p.by_
    cases hset : p.set with
    | true => have := hs.set hset; simp only [if_true]; omega
    | false => have := hs.add hset; simp only [Bool.false_eq_true, if_false]; omega
  · show (if p.set = true then p.by_ + t else p.by_) ≤ far
    cases hset : p.set with
    | true => have := hs.set hset; simp only [if_true]; omega
    | false => have := hs.add hset; simp only [Bool.false_eq_true, if_false]; omega
  · have hset : p.set = false := hset
    show (if p.set = true then p.by_ + t else p.by_) ≠ 0
    rw [hset]
    exact h.add hset
theorem mv_apart (t : Int) : ∀ ps : List Pc, Apart ps → Apart (ps.map (Pc.mv t))
  | [], _ => True.intro
  | [_], _ => True.intro
  | p :: q :: r, h => ⟨by
    obtain ⟨a, b, h1, h2, h3⟩ := h.1
    exact ⟨a + t, b + t, by show p.hi.map _ = _; rw [h1]; rfl, by show q.lo.map _ = _; rw [h2]; rfl, by omega⟩, mv_apart t (q :: r) h.2⟩
theorem mv_ch {ps : List Pc} (h : Sm ps) {t : Int} (h1 : -50 ≤ t) (h2 : t ≤ 50) : ChOk (ps.map (Pc.mv t)) := ⟨by rw [List.length_map]; exact h.ch.one, by rw [List.length_map]; exact h.ch.four, fun q hq => by
  obtain ⟨p, hp, rfl⟩ := List.mem_map.mp hq
  exact mv_ok (h.ch.all p hp) (h.sm p hp) h1 h2, mv_apart t ps h.ch.apart⟩
theorem turn_pcok {p : Pc} (h : PcOk p) : PcOk p.turn := by
  refine ⟨fun i e => ?_, fun i e => ?_, fun i j e1 e2 => ?_, ?_, ?_, fun hset => ?_⟩
  · have := h.hi (-i) (negO_some e); omega
  · have := h.lo (-i) (negO_some e); omega
  · have := h.le (-j) (-i) (negO_some e2) (negO_some e1); omega
  · have := h.by2; show -far ≤ -p.by_; omega
  · have := h.by1; show -p.by_ ≤ far; omega
  · have := h.add hset; show -p.by_ ≠ 0; omega
theorem turn_ch {ps : List Pc} (h : ChOk ps) : ChOk (turnPs ps) := ⟨by simpa [turnPs] using h.one, by simpa [turnPs] using h.four, fun q hq => by
  obtain ⟨p, hp, rfl⟩ := List.mem_map.mp hq
  exact turn_pcok (h.all p (List.mem_reverse.mp hp)), apart_turn ps h.apart⟩
/-! one piece less -/
theorem ap_trans {p q r : Pc} (hq : PcOk q) (h1 : Ap p q) (h2 : Ap q r) : Ap p r := by
  obtain ⟨a, b, e1, e2, e3⟩ := h1
  obtain ⟨c, d, f1, f2, f3⟩ := h2
  have := hq.le b c e2 f1
  exact ⟨a, d, e1, f2, by omega⟩
theorem less_ch {ps : List Pc} (h : Sm ps) {i : Nat} (hi : i < ps.length) (h2 : 2 ≤ ps.length) : ChOk (ps.take i ++ ps.drop (i + 1)) := by
  have h3 := h.three
  have ha := h.ch.apart
  have hall := h.ch.all
  cases ps with
  | nil => exact absurd h2 (by decide)
  | cons p t =>
    cases t with
    | nil => exact absurd h2 (by show ¬ 2 ≤ 1; omega)
    | cons q t =>
      cases t with
      | nil =>
        have hi : i < 2 := hi
        have hc : i = 0 ∨ i = 1 := by omega
        rcases hc with rfl | rfl
        · exact ⟨Nat.le_refl _, by show 1 ≤ 4; omega, fun x hx => hall x (List.mem_cons_of_mem _ hx), True.intro⟩
        · have one : ChOk [p] := ⟨Nat.le_refl _, by show 1 ≤ 4; omega, fun x hx => by
            obtain rfl := List.mem_singleton.mp hx
            exact hall _ List.mem_cons_self, True.intro⟩
          exact one
      | cons r t =>
        cases t with
        | cons z t => exact absurd h3 (by simp only [List.length_cons]; omega)
        | nil =>
          have hi : i < 3 := hi
          have hc : i = 0 ∨ i = 1 ∨ i = 2 := by omega
          have two : ∀ a b : Pc, a ∈ [p, q, r] → b ∈ [p, q, r] → Ap a b → ChOk [a, b] := fun a b ma mb hab => ⟨by show 1 ≤ 2; omega, by show 2 ≤ 4; omega, fun x hx => by
            rcases List.mem_cons.mp hx with rfl | hx
            · exact hall _ ma
            · obtain rfl := List.mem_singleton.mp hx
              exact hall _ mb, hab, True.intro⟩
          rcases hc with rfl | rfl | rfl
          · exact two q r (by simp) (by simp) ha.2.1
          · exact two p r (by simp) (by simp) (ap_trans (hall q (by simp)) ha.1 ha.2.1)
          · exact two p q (by simp) (by simp) ha.1
/-! one piece more -/
def blw (l : Int) (p : Pc) : Bool := match p.hi with | some h => decide (h < l) | none => false
def abv (h : Int) (p : Pc) : Bool := match p.lo with | some l => decide (h < l) | none => false
theorem blw_mono {l : Int} {p q : Pc} (hq : PcOk q) (ha : Ap p q) (h : blw l q = true) : blw l p = true := by
  obtain ⟨a, b, e1, e2, e3⟩ := ha
  unfold blw at h ⊢
  rw [e1]
  cases eh : q.hi with
  | none => rw [eh] at h; cases h
  | some c =>
    rw [eh] at h
    have := of_decide_eq_true h
    have := hq.le b c e2 eh
    exact decide_eq_true (by omega)
theorem abv_mono {h : Int} {p q : Pc} (hp : PcOk p) (ha : Ap p q) (h1 : abv h p = true) : abv h q = true := by
  obtain ⟨a, b, e1, e2, e3⟩ := ha
  unfold abv at h1 ⊢
  rw [e2]
  cases el : p.lo with
  | none => rw [el] at h1; cases h1
  | some c =>
    rw [el] at h1
    have := of_decide_eq_true h1
    have := hp.le c a el e1
    exact decide_eq_true (by omega)
theorem not_both {l h : Int} (hl : l ≤ h) {p : Pc} (hp : PcOk p) (h1 : blw l p = true) (h2 : abv h p = true) : False := by
  unfold blw at h1
  unfold abv at h2
  cases e1 : p.hi with
  | none => rw [e1] at h1; cases h1
  | some a =>
    cases e2 : p.lo with
    | none => rw [e2] at h2; cases h2
    | some b =>
      rw [e1] at h1
      rw [e2] at h2
      have := of_decide_eq_true h1
      have := of_decide_eq_true h2
      have := hp.le b a e2 e1
      omega
/-- the pieces below are the first ones -/
theorem blw_pre (l : Int) : ∀ ps : List Pc, Apart ps → (∀ p ∈ ps, PcOk p) → ps = ps.filter (blw l) ++ ps.drop (ps.filter (blw l)).length ∧ ∀ p ∈ ps.drop (ps.filter (blw l)).length, blw l p = false
  | [], _, _ => ⟨rfl, fun p hp => by cases hp⟩
  | p :: r, ha, hall => by
    have hr : Apart r := by
      cases r with
      | nil => exact True.intro
      | cons q r => exact ha.2
    cases hb : blw l p with
    | true =>
      obtain ⟨e, h2⟩ := blw_pre l r hr fun q hq => hall q (List.mem_cons_of_mem _ hq)
      rw [List.filter_cons_of_pos hb, List.length_cons, List.drop_succ_cons, List.cons_append, ← e]
      exact ⟨rfl, h2⟩
    | false =>
      have hn : ∀ q ∈ p :: r, blw l q = false := by
        have : ∀ (r : List Pc) (p : Pc), Apart (p :: r) → (∀ q ∈ p :: r, PcOk q) → blw l p = false → ∀ q ∈ p :: r, blw l q = false := by
          intro r
          induction r with
          | nil => intro p _ _ h q hq; obtain rfl := List.mem_singleton.mp hq; exact h
          | cons q r ih =>
            intro p ha hall h x hx
            rcases List.mem_cons.mp hx with rfl | hx
            · exact h
            · refine ih q ha.2 (fun y hy => hall y (List.mem_cons_of_mem _ hy)) ?_ x hx
              cases e : blw l q with
              | false => rfl
              | true => rw [blw_mono (hall q (by simp)) ha.1 e] at h; exact h
        exact this r p ha hall hb
      have e : (p :: r).filter (blw l) = [] := List.filter_eq_nil_iff.mpr fun q hq => by rw [hn q hq]; decide
      rw [e]
      exact ⟨rfl, hn⟩
theorem apAll_bad : ∀ (xs : List D) (a b : D) (ys : List D), apD a b = false → apAll (xs ++ a :: b :: ys) = false
  | [], a, b, ys, h => by rw [List.nil_append, apAll, h]; rfl
  | [x], a, b, ys, h => by
    show apAll (x :: a :: b :: ys) = false
    rw [apAll, apAll, h]
    simp
  | x :: y :: xs, a, b, ys, h => by
    show apAll (x :: y :: (xs ++ a :: b :: ys)) = false
    rw [apAll, show y :: (xs ++ a :: b :: ys) = (y :: xs) ++ a :: b :: ys from rfl, apAll_bad (y :: xs) a b ys h]
    simp
def newPs (q : Pc) (l : Int) (ps : List Pc) : List Pc := ps.filter (blw l) ++ [q] ++ ps.drop (ps.filter (blw l)).length
theorem apart_app : ∀ (xs : List Pc) (a : Pc) (ys : List Pc), Apart (xs ++ [a]) → Apart (a :: ys) → Apart (xs ++ a :: ys)
  | [], a, ys, _, h => h
  | [x], a, ys, h1, h2 => ⟨h1.1, h2⟩
  | x :: y :: xs, a, ys, h1, h2 => ⟨h1.1, apart_app (y :: xs) a ys h1.2 h2⟩
theorem apart_left : ∀ (xs ys : List Pc), Apart (xs ++ ys) → Apart xs
  | [], _, _ => True.intro
  | [_], _, _ => True.intro
  | x :: y :: xs, ys, h => ⟨h.1, apart_left (y :: xs) ys h.2⟩
theorem apart_right : ∀ (xs ys : List Pc), Apart (xs ++ ys) → Apart ys
  | [], _, h => h
  | [x], ys, h => by
    cases ys with
    | nil => exact True.intro
    | cons y ys => exact h.2
  | x :: y :: xs, ys, h => apart_right (y :: xs) ys h.2
/-- with one piece more: it fits just when all others lie apart of it -/
theorem more_ch {ps : List Pc} (h : Sm ps) {q : Pc} {l hh : Int} (hq : PcOk q) (hl : q.lo = some l) (hhi : q.hi = some hh) :
    if (ps.filter (blw l)).length + (ps.filter (abv hh)).length = ps.length then ChOk (newPs q l ps) ∧ newPs q l ps = ps.filter (blw l) ++ [q] ++ ps.filter (abv hh) else fitsCh (.tuple ((newPs q l ps).map Pc.d)) = false := by
  have lh := hq.le l hh hl hhi
  obtain ⟨e, hn⟩ := blw_pre l ps h.ch.apart h.ch.all
  have f1 : ∀ p ∈ ps.filter (blw l), abv hh p = false := fun p hp => by
    obtain ⟨h1, h2⟩ := List.mem_filter.mp hp
    cases ea : abv hh p with
    | false => rfl
    | true => exact (not_both lh (h.ch.all p h1) h2 ea).elim
  generalize hrest : ps.drop (ps.filter (blw l)).length = rest at e hn
  generalize hbel : ps.filter (blw l) = bel at e f1 hrest
  have fa : ps.filter (abv hh) = rest.filter (abv hh) := by
    rw [e, List.filter_append, List.filter_eq_nil_iff.mpr (fun p hp => by rw [f1 p hp]; decide), List.nil_append]
  have hlen : ps.length = bel.length + rest.length := by rw [e, List.length_append]
  have hbl : ∀ p ∈ bel, blw l p = true := fun p hp => by rw [← hbel] at hp; exact (List.mem_filter.mp hp).2
  have nw : newPs q l ps = bel ++ q :: rest := by
    unfold newPs
    rw [hbel, hrest, List.append_assoc]
    rfl
  have hap := h.ch.apart
  rw [e] at hap
  have hal : ∀ p ∈ bel ++ rest, PcOk p := fun p hp => h.ch.all p (by rw [e]; exact hp)
  rw [nw, fa, hlen]
  split
  · rename_i hc
    have hall : rest.filter (abv hh) = rest := List.filter_eq_self.mpr (by
      have : (rest.filter (abv hh)).length = rest.length := by omega
      exact List.length_filter_eq_length_iff.mp this)
    refine ⟨⟨by simp only [List.length_append, List.length_cons]; omega, ?_, fun p hp => ?_, ?_⟩, by rw [hall, List.append_assoc]; rfl⟩
    · have := h.three
      rw [hlen] at this
      simp only [List.length_append, List.length_cons]
      omega
    · rcases List.mem_append.mp hp with hp | hp
      · exact hal p (List.mem_append_left _ hp)
      · rcases List.mem_cons.mp hp with rfl | hp
        · exact hq
        · exact hal p (List.mem_append_right _ hp)
    · refine apart_app _ _ _ (apart_snoc q bel (apart_left _ _ hap) fun p hp => ?_) ?_
      · have := hbl p (List.mem_of_getLast? hp)
        unfold blw at this
        cases eh : p.hi with
        | none => rw [eh] at this; cases this
        | some c => rw [eh] at this; exact ⟨c, l, eh, hl, of_decide_eq_true this⟩
      · have hr := apart_right _ _ hap
        cases rest with
        | nil => exact True.intro
        | cons p r =>
          refine ⟨?_, hr⟩
          have := (List.filter_eq_self.mp hall) p List.mem_cons_self
          unfold abv at this
          cases el : p.lo with
          | none => rw [el] at this; cases this
          | some c => rw [el] at this; exact ⟨hh, c, hhi, el, of_decide_eq_true this⟩
  · rename_i hc
    cases rest with
    | nil => exact absurd (by simp) hc
    | cons p r =>
      have hp : abv hh p = false := by
        cases ea : abv hh p with
        | false => rfl
        | true =>
          exfalso
          have hr := apart_right _ _ hap
          have all : ∀ (r : List Pc) (p : Pc), Apart (p :: r) → (∀ q ∈ p :: r, PcOk q) → abv hh p = true → ∀ q ∈ p :: r, abv hh q = true := by
            intro r
            induction r with
            | nil => intro p _ _ h q hq; obtain rfl := List.mem_singleton.mp hq; exact h
            | cons q r ih =>
              intro p ha hall h x hx
              rcases List.mem_cons.mp hx with rfl | hx
              · exact h
              · exact ih q ha.2 (fun y hy => hall y (List.mem_cons_of_mem _ hy)) (abv_mono (hall p (by simp)) ha.1 h) x hx
          have := all r p hr (fun x hx => hal x (List.mem_append_right _ hx)) ea
          rw [List.filter_eq_self.mpr this] at hc
          exact hc rfl
      have bad : apD q.d p.d = false := by
        unfold Pc.d apD
        rw [hhi]
        unfold abv at hp
        cases el : p.lo with
        | none => rfl
        | some c =>
          rw [el] at hp
          have := of_decide_eq_false hp
          simp [isNonD, ltD]
          omega
      unfold fitsCh
      dsimp only
      rw [List.map_append, List.map_cons, List.map_cons, apAll_bad _ _ _ _ bad]
      simp
end Pure

set_option linter.all false
set_option Elab.async false
set_option maxRecDepth 100000
set_option maxHeartbeats 2000000
/-! The plain law: one piece more; the law's own moved and turned ones. -/
namespace Pure
open PySem Mi Mir
theorem lc_filterT {α : Type} {t : TF} {c e : EF} {ρ : Mi.Env} {μ : Sto} (f g : α → D) (p : α → Bool) : ∀ (l : List α) (acc : List D), (∀ x ∈ l, ∃ ρ1, t (f x) ρ = some ρ1 ∧ c ρ1 μ = .ok (.d (.bool (p x))) μ ∧ (p x = true → e ρ1 μ = .ok (.d (g x)) μ)) →
    lcL t c e ρ (l.map f) acc μ = .ok (.d (.list (acc ++ (l.filter p).map g))) μ
  | [], acc, _ => by simp [lcL]
  | d :: r, acc, h => by
    obtain ⟨ρ1, e1, e2, e3⟩ := h d List.mem_cons_self
    rw [List.map_cons]
    unfold lcL
    rw [e1]
    dsimp only
    rw [e2]
    cases hp : p d with
    | true =>
      dsimp only
      rw [e3 hp]
      dsimp only
      rw [lc_filterT f g p r (acc ++ [g d]) fun d hd => h d (List.mem_cons_of_mem _ hd)]
      simp [hp]
    | false =>
      dsimp only
      rw [lc_filterT f g p r acc fun d hd => h d (List.mem_cons_of_mem _ hd)]
      simp [hp]
def Cb : EF := eAnd (eNotN (eOp dIx (eVar 1) (eInt 0))) (eAnd (eNotN (eOp dIx (eVar 3) (eInt 1))) (eOp dLt (eOp dIx (eVar 3) (eInt 1)) (eOp dIx (eVar 1) (eInt 0))))
theorem cb_spec {q p : Pc} {l : Int} (hl : q.lo = some l) (x0 x2 : Option W) (μ : Sto) : Cb [x0, some (.d q.d), x2, some (.d p.d)] μ = .ok (.d (.bool (blw l p))) μ := by
  have i0 : dIx q.d (.int 0) = some (.int l) := by
    show some (oD q.lo) = _
    rw [hl]
    rfl
  have i1 : dIx p.d (.int 1) = some (oD p.hi) := rfl
  unfold blw
  cases eh : p.hi with
  | none => rw [eh] at i1; simp [Cb, i0, i1]
  | some h => rw [eh] at i1; simp [Cb, i0, i1]
theorem with_bad (l : List D) (d : D) (hs : SeqAt.shaped d = true) (h : pieceD d = false) (μ : Sto) : g_with_piece [.d (.tuple l), .d d] μ = .er ⟨"InvalidPiece", none⟩ μ := by
  have e := piece_spec d hs μ
  rw [h] at e
  rw [show g_with_piece = fnOf 2 4 F_with_piece from rfl, fnOf2]
  simp [F_with_piece, e, fin_er]
theorem cutL_from {α : Type} (l : List α) (n : Nat) : cutL l (some (n : Int)) none = l.drop n := by
  have h1 : ¬ (n : Int) < 0 := by omega
  have h2 : ((n : Int)).toNat = n := by omega
  simp only [cutL, six, h1, if_false, h2]
  by_cases h : n ≤ l.length
  · rw [Nat.min_eq_left h]
    exact List.take_of_length_le (by simp)
  · rw [Nat.min_eq_right (by omega), List.drop_of_length_le (by omega), List.drop_of_length_le (by omega)]
    simp
theorem with_ok {ps : List Pc} (hps : ps.length ≤ 1000) {q : Pc} (hq : PcOk q) {l : Int} (hl : q.lo = some l) (μ : Sto) : g_with_piece [.d (.tuple (ps.map Pc.d)), .d q.d] μ = .ok (.d (.tuple ((newPs q l ps).map Pc.d))) μ := by
  have e := piece_spec q.d ((sh_pc q).shaped (by decide)) μ
  rw [pieceD_ok hq] at e
  rw [show g_with_piece = fnOf 2 4 F_with_piece from rfl, fnOf2]
  have st : F_with_piece = sSeq (sIf (eNot (eCall g_is_piece (aCons (eVar 1) aNil))) (sRaise "InvalidPiece") sNil)
    (sSeq (sAsg 2 (eLc [3] (tName 3) (iSeq (eVar 0)) Cb (eVar 3)))
    (sRet (eOp dAdd (eOp dAdd (eBlt bTup (aCons (eVar 2) aNil)) (eTup (aCons (eVar 1) aNil))) (eSl dCut (eVar 0) (some (eBlt bLen (aCons (eVar 2) aNil))) none)))) := rfl
  have lc : lcL (tName 3) Cb (eVar 3) [some (.d (.tuple (ps.map Pc.d))), some (.d q.d), none, none] (ps.map Pc.d) [] μ = .ok (.d (.list ((ps.filter (blw l)).map Pc.d))) μ := by
    rw [lc_filterT Pc.d Pc.d (blw l) ps [] fun p hp => ⟨_, rfl, cb_spec hl _ _ μ, fun _ => rfl⟩]
    rfl
  have hlim : (2500 : Nat) ≤ LIM := by decide
  have hfl : (ps.filter (blw l)).length ≤ ps.length := List.length_filter_le _ _
  have d1 : dAdd (.tuple ((ps.filter (blw l)).map Pc.d)) (.tuple [q.d]) = some (.tuple (((ps.filter (blw l)) ++ [q]).map Pc.d)) := by
    show (if _ then _ else _) = _
    rw [if_pos (by simp only [List.length_map, List.length_cons, List.length_nil]; omega), List.map_append]
    rfl
  have d2 : dAdd (.tuple (((ps.filter (blw l)) ++ [q]).map Pc.d)) (.tuple ((ps.drop (ps.filter (blw l)).length).map Pc.d)) = some (.tuple ((newPs q l ps).map Pc.d)) := by
    show (if _ then _ else _) = _
    rw [if_pos (by simp only [List.length_map, List.length_append, List.length_cons, List.length_nil, List.length_drop]; omega), ← List.map_append]
    rfl
  have ct : dCut (.tuple (ps.map Pc.d)) (some ((ps.filter (blw l)).length : Int)) none = some (.tuple ((ps.drop (ps.filter (blw l)).length).map Pc.d)) := by
    show some (PyData.tuple _) = _
    rw [cutL_from, List.map_drop]
  rw [st]
  simp [e, items, wipeE, lc, bTup, bLen, d1, ct, d2, x_fin, -List.map_append, -List.map_drop]
section
variable {μ : Sto} {k : Nat} {ps : List Pc}
theorem or_bad (h : VAt μ k (.tuple (ps.map Pc.d))) {d : D} (hs : SeqAt.shaped d = true) (hb : pieceD d = false) : g_Change____or__ [.m k, .d d] μ = .er ⟨"InvalidPiece", none⟩ μ := by
  rw [show g_Change____or__ = fnOf 2 2 F_Change____or__ from rfl, fnOf2]
  simp [F_Change____or__, h.mins, with_bad _ d hs hb, fin_er]
theorem or_ok (h : VAt μ k (.tuple (ps.map Pc.d))) (hps : ps.length ≤ 1000) {q : Pc} (hq : PcOk q) {l : Int} (hl : q.lo = some l) : g_Change____or__ [.m k, .d q.d] μ = g_value_of [.d (.tuple ((newPs q l ps).map Pc.d))] μ := by
  rw [show g_Change____or__ = fnOf 2 2 F_Change____or__ from rfl, fnOf2]
  have v := value_of_spec _ ((sh_ps (newPs q l ps)).shaped (by decide)) μ
  cases hf : fitsCh (.tuple ((newPs q l ps).map Pc.d)) with
  | true =>
    rw [hf] at v
    simp only [if_true] at v
    rw [v]
    simp [F_Change____or__, h.mins, with_ok hps hq hl, v, fin, take1]
  | false =>
    rw [hf] at v
    simp only [Bool.false_eq_true, if_false] at v
    rw [v]
    simp [F_Change____or__, h.mins, with_ok hps hq hl, v, fin]
theorem ior_bad (h : VAt μ k (.tuple (ps.map Pc.d))) {d : D} (hs : SeqAt.shaped d = true) (hb : pieceD d = false) : g_Change____ior__ [.m k, .d d] μ = .er ⟨"InvalidPiece", none⟩ μ := by
  rw [show g_Change____ior__ = fnOf 2 3 F_Change____ior__ from rfl, fnOf2]
  simp [F_Change____ior__, h.mins, with_bad _ d hs hb, fin_er]
theorem ior_ok (h : VAt μ k (.tuple (ps.map Pc.d))) (hps : ps.length ≤ 1000) {q : Pc} (hq : PcOk q) {l : Int} (hl : q.lo = some l) : g_Change____ior__ [.m k, .d q.d] μ =
    if fitsCh (.tuple ((newPs q l ps).map Pc.d)) = true then .ok (.m k) (μ.set k (vob (.tuple ((newPs q l ps).map Pc.d)))) else .er ⟨"InvalidChange", none⟩ μ := by
  rw [show g_Change____ior__ = fnOf 2 3 F_Change____ior__ from rfl, fnOf2]
  have v := need_change_spec _ ((sh_ps (newPs q l ps)).shaped (by decide)) μ
  have hk := h.lt
  cases hf : fitsCh (.tuple ((newPs q l ps).map Pc.d)) with
  | true =>
    rw [hf] at v
    simp only [if_true] at v
    simp [F_Change____ior__, h.mins, with_ok hps hq hl, v, fin, putD, vob, hk, List.take_of_length_le]
  | false =>
    rw [hf] at v
    simp only [Bool.false_eq_true, if_false] at v
    simp [F_Change____ior__, h.mins, with_ok hps hq hl, v, fin]
theorem nm_piece : nmC clsL ⟨"InvalidPiece", none⟩ = some ("piece value" : Str) := by kernel_rfl
theorem nm_change : nmC clsL ⟨"InvalidChange", none⟩ = some ("change value" : Str) := by kernel_rfl
theorem nm_worth : nmC clsL ⟨"InvalidWorth", none⟩ = some ("worth value" : Str) := by kernel_rfl
theorem nm_index : nmC clsL ⟨"InvalidIndex", none⟩ = some ("index value" : Str) := by kernel_rfl
theorem nm_unlike : nmC clsL ⟨"Unlike", none⟩ = some ("unlike value" : Str) := by kernel_rfl
theorem taken_bad (h : VAt μ k (.tuple (ps.map Pc.d))) {d : D} (hs : SeqAt.shaped d = true) (hb : pieceD d = false) : g__law_taken [.m k, .d d] μ = .ok (.d (.str "piece value")) μ := by
  rw [show g__law_taken = fnOf 2 3 F__law_taken from rfl, fnOf2]
  simp [F__law_taken, h.mins, ior_bad h hs hb, nm_piece, x_fin]
theorem taken_ok (h : VAt μ k (.tuple (ps.map Pc.d))) (hps : ps.length ≤ 1000) {q : Pc} (hq : PcOk q) {l : Int} (hl : q.lo = some l) : g__law_taken [.m k, .d q.d] μ =
    if fitsCh (.tuple ((newPs q l ps).map Pc.d)) = true then .ok (.d (.str "")) (μ.set k (vob (.tuple ((newPs q l ps).map Pc.d)))) else .ok (.d (.str "change value")) μ := by
  rw [show g__law_taken = fnOf 2 3 F__law_taken from rfl, fnOf2]
  have e := ior_ok h hps hq hl
  cases hf : fitsCh (.tuple ((newPs q l ps).map Pc.d)) with
  | true =>
    rw [hf] at e
    simp only [if_true] at e
    simp [F__law_taken, h.mins, e, x_fin]
  | false =>
    rw [hf] at e
    simp only [Bool.false_eq_true, if_false] at e
    simp [F__law_taken, h.mins, e, nm_change, x_fin]
end
/-! the law's own -/
theorem lvalue_spec {ps : List Pc} (h : Sm ps) (μ : Sto) : g__law_value [.d (.tuple (ps.map Pc.d))] μ = .ok (.m μ.length) (μ ++ [vob (.tuple (ps.map Pc.d))]) := by
  rw [show g__law_value = fnOf 1 1 F__law_value from rfl, fnOf1]
  have hf := fitsCh_ok h.ch
  have hs := (sh_ps ps).shaped (show 2 ≤ 64 by decide)
  have h1 := h.ch.one
  have h3 := h.three
  match ps, h1, h3, hf, hs with
  | [p], _, _, hf, hs =>
    have hf : fitsCh (.tuple [p.d]) = true := hf
    have m := init_spec [p.d] hs μ
    rw [if_pos hf] at m
    have i0 : dIx (.tuple [p.d]) (.int 0) = some p.d := rfl
    simp [F__law_value, bLen, dEqI, i0, m, fin, take1]
  | [p, q], _, _, hf, hs =>
    have hf : fitsCh (.tuple [p.d, q.d]) = true := hf
    have m := init_spec [p.d, q.d] hs μ
    rw [if_pos hf] at m
    have i0 : dIx (.tuple [p.d, q.d]) (.int 0) = some p.d := rfl
    have i1 : dIx (.tuple [p.d, q.d]) (.int 1) = some q.d := rfl
    simp [F__law_value, bLen, dEqI, i0, i1, m, fin, take1]
  | [p, q, r], _, _, hf, hs =>
    have hf : fitsCh (.tuple [p.d, q.d, r.d]) = true := hf
    have m := init_spec [p.d, q.d, r.d] hs μ
    rw [if_pos hf] at m
    have i0 : dIx (.tuple [p.d, q.d, r.d]) (.int 0) = some p.d := rfl
    have i1 : dIx (.tuple [p.d, q.d, r.d]) (.int 1) = some q.d := rfl
    have i2 : dIx (.tuple [p.d, q.d, r.d]) (.int 2) = some r.d := rfl
    simp [F__law_value, bLen, dEqI, i0, i1, i2, m, fin, take1]
end Pure

set_option linter.all false
set_option Elab.async false
set_option maxRecDepth 100000
set_option maxHeartbeats 2000000
/-! The plain law: the law's own changes, and its checks of one value. -/
namespace Pure
open PySem Mi Mir
theorem ne_self {d : D} (h : SeqAt.shaped d = true) : dNe d d = some (.bool false) := by
  rw [dNeD h h, SeqAt.eqv_refl d (shaped_iff.mp h).1]
  rfl
theorem eq_self {d : D} (h : SeqAt.shaped d = true) : dEq d d = some (.bool true) := by
  rw [dEqD h h, SeqAt.eqv_refl d (shaped_iff.mp h).1]
theorem sh_psd (ps : List Pc) : SeqAt.shaped (.tuple (ps.map Pc.d)) = true := (sh_ps ps).shaped (by decide)
/-! moved -/
def Bm : SF := (sSeq (sAsg 3 (eIf (eIsN (eVar 3)) eNon (eOp dAdd (eVar 3) (eVar 1))))
    (sSeq (sAsg 4 (eIf (eIsN (eVar 4)) eNon (eOp dAdd (eVar 4) (eVar 1))))
    (sDrop (eApp (eVar 2) (eTup (aCons (eVar 3) (aCons (eVar 4) (aCons (eVar 5) (aCons (eIf (eOp dEq (eVar 5) (eStr "add")) (eVar 6) (eOp dAdd (eVar 6) (eVar 1))) aNil)))))))))
def Tm : TF := Mi.tTup [(tName 3), (tName 4), (tName 5), (tName 6)]
theorem moved_turn (x0 : Option W) (t : Int) (μ : Sto) (acc : List D) (ha : acc.length ≤ 5000) (p : Pc) : ∃ y3 y4, Bm [x0, some (.d (.int t)), some (.m μ.length), some (.d (oD p.lo)), some (.d (oD p.hi)), some (.d (.str (wd p.set))), some (.d (.int p.by_))] (μ ++ [some (.lst acc)]) =
    .nx [x0, some (.d (.int t)), some (.m μ.length), y3, y4, some (.d (.str (wd p.set))), some (.d (.int p.by_))] (μ ++ [some (.lst (acc ++ [(p.mv t).d]))]) := by
  have hl : acc.length < LIM := Nat.lt_of_le_of_lt ha (by decide)
  have q := eq_add p.set
  refine ⟨some (.d (oD (p.lo.map (· + t)))), some (.d (oD (p.hi.map (· + t)))), ?_⟩
  cases hs : p.set with
  | true =>
    rw [hs] at q
    cases h1 : p.lo <;> cases h2 : p.hi <;> simp [Bm, q, ml_last, hl, set_last, Pc.mv, Pc.d, h1, h2, hs]
  | false =>
    rw [hs] at q
    cases h1 : p.lo <;> cases h2 : p.hi <;> simp [Bm, q, ml_last, hl, set_last, Pc.mv, Pc.d, h1, h2, hs]
theorem moved_loop (x0 : Option W) (t : Int) (μ : Sto) : ∀ (r : List Pc) (acc : List D) (x3 x4 x5 x6 : Option W), acc.length + r.length ≤ 5000 → ∃ y3 y4 y5 y6, forL Tm Bm (r.map Pc.d) [x0, some (.d (.int t)), some (.m μ.length), x3, x4, x5, x6] (μ ++ [some (.lst acc)]) =
    .nx [x0, some (.d (.int t)), some (.m μ.length), y3, y4, y5, y6] (μ ++ [some (.lst (acc ++ (r.map (Pc.mv t)).map Pc.d))])
  | [], acc, x3, x4, x5, x6, _ => ⟨x3, x4, x5, x6, by simp [forL]⟩
  | p :: r, acc, x3, x4, x5, x6, h => by
    rw [List.length_cons] at h
    obtain ⟨z3, z4, e⟩ := moved_turn x0 t μ acc (by omega) p
    obtain ⟨y3, y4, y5, y6, e2⟩ := moved_loop x0 t μ r (acc ++ [(p.mv t).d]) z3 z4 (some (.d (.str (wd p.set)))) (some (.d (.int p.by_))) (by simp; omega)
    refine ⟨y3, y4, y5, y6, ?_⟩
    have st : forL Tm Bm ((p :: r).map Pc.d) [x0, some (.d (.int t)), some (.m μ.length), x3, x4, x5, x6] (μ ++ [some (.lst acc)]) = (match Bm [x0, some (.d (.int t)), some (.m μ.length), some (.d (oD p.lo)), some (.d (oD p.hi)), some (.d (.str (wd p.set))), some (.d (.int p.by_))] (μ ++ [some (.lst acc)]) with
      | .nx ρ2 μ2 => forL Tm Bm (r.map Pc.d) ρ2 μ2
      | .ct ρ2 μ2 => forL Tm Bm (r.map Pc.d) ρ2 μ2
      | .bk ρ2 μ2 => .nx ρ2 μ2
      | .rt w μ2 => .rt w μ2
      | .er x μ2 => .er x μ2
      | .no => .no) := rfl
    rw [st, e]
    dsimp only
    rw [e2]
    simp
theorem lmoved_spec (ps : List Pc) (hl : ps.length ≤ 1000) (t : Int) (μ : Sto) : g__law_moved [.d (.tuple (ps.map Pc.d)), .d (.int t)] μ = .ok (.d (.tuple ((ps.map (Pc.mv t)).map Pc.d))) μ := by
  obtain ⟨y3, y4, y5, y6, e⟩ := moved_loop (some (.d (.tuple (ps.map Pc.d)))) t μ ps [] none none none none (by simp; omega)
  rw [show g__law_moved = fnOf 2 7 F__law_moved from rfl, fnOf2]
  have st : F__law_moved = sSeq (sAsg 2 (eLstM aNil)) (sSeq (sFor Tm (iSeq (eVar 0)) Bm) (sRet (eBlt bTup (aCons (eVar 2) aNil)))) := rfl
  rw [st]
  simp [items, e, ml_last, bTup, fin, -List.map_map]
/-! turned -/
def Bu : SF := (sAsg 1 (eOp dAdd (eLst (aCons (eTup (aCons (eIf (eIsN (eVar 3)) eNon (eUn dNeg (eVar 3))) (aCons (eIf (eIsN (eVar 2)) eNon (eUn dNeg (eVar 2))) (aCons (eVar 4) (aCons (eUn dNeg (eVar 5)) aNil))))) aNil)) (eVar 1)))
def Tu : TF := Mi.tTup [(tName 2), (tName 3), (tName 4), (tName 5)]
theorem turned_turn (x0 : Option W) (μ : Sto) (acc : List D) (ha : acc.length ≤ 5000) (p : Pc) : Bu [x0, some (.d (.list acc)), some (.d (oD p.lo)), some (.d (oD p.hi)), some (.d (.str (wd p.set))), some (.d (.int p.by_))] μ =
    .nx [x0, some (.d (.list (p.turn.d :: acc))), some (.d (oD p.lo)), some (.d (oD p.hi)), some (.d (.str (wd p.set))), some (.d (.int p.by_))] μ := by
  have cat : ∀ d : D, dAdd (.list [d]) (.list acc) = some (.list (d :: acc)) := fun d => by
    show (if _ then _ else _) = _
    rw [if_pos (by have : (6000 : Nat) ≤ LIM := by decide
                   simp only [List.length_cons, List.length_nil]; omega)]
    rfl
  cases h1 : p.lo <;> cases h2 : p.hi <;> simp [Bu, cat, Pc.turn, Pc.d, h1, h2, negO]
theorem turned_loop (x0 : Option W) (μ : Sto) : ∀ (r : List Pc) (acc : List D) (x2 x3 x4 x5 : Option W), acc.length + r.length ≤ 5000 → ∃ y2 y3 y4 y5, forL Tu Bu (r.map Pc.d) [x0, some (.d (.list acc)), x2, x3, x4, x5] μ =
    .nx [x0, some (.d (.list ((turnPs r).map Pc.d ++ acc))), y2, y3, y4, y5] μ
  | [], acc, x2, x3, x4, x5, _ => ⟨x2, x3, x4, x5, by simp [forL, turnPs]⟩
  | p :: r, acc, x2, x3, x4, x5, h => by
    rw [List.length_cons] at h
    have e := turned_turn x0 μ acc (by omega) p
    obtain ⟨y2, y3, y4, y5, e2⟩ := turned_loop x0 μ r (p.turn.d :: acc) (some (.d (oD p.lo))) (some (.d (oD p.hi))) (some (.d (.str (wd p.set)))) (some (.d (.int p.by_))) (by simp; omega)
    refine ⟨y2, y3, y4, y5, ?_⟩
    have st : forL Tu Bu ((p :: r).map Pc.d) [x0, some (.d (.list acc)), x2, x3, x4, x5] μ = (match Bu [x0, some (.d (.list acc)), some (.d (oD p.lo)), some (.d (oD p.hi)), some (.d (.str (wd p.set))), some (.d (.int p.by_))] μ with
      | .nx ρ2 μ2 => forL Tu Bu (r.map Pc.d) ρ2 μ2
      | .ct ρ2 μ2 => forL Tu Bu (r.map Pc.d) ρ2 μ2
      | .bk ρ2 μ2 => .nx ρ2 μ2
      | .rt w μ2 => .rt w μ2
      | .er x μ2 => .er x μ2
      | .no => .no) := rfl
    rw [st, e]
    dsimp only
    rw [e2, turnPs_cons, List.map_append]
    simp
theorem lturned_spec (ps : List Pc) (hl : ps.length ≤ 1000) (μ : Sto) : g__law_turned [.d (.tuple (ps.map Pc.d))] μ = .ok (.d (.tuple ((turnPs ps).map Pc.d))) μ := by
  obtain ⟨y2, y3, y4, y5, e⟩ := turned_loop (some (.d (.tuple (ps.map Pc.d)))) μ ps [] none none none none (by simp; omega)
  rw [show g__law_turned = fnOf 1 6 F__law_turned from rfl, fnOf1]
  have st : F__law_turned = sSeq (sAsg 1 (eLst aNil)) (sSeq (sFor Tu (iSeq (eVar 0)) Bu) (sRet (eBlt bTup (aCons (eVar 1) aNil)))) := rfl
  rw [st]
  rw [List.append_nil] at e
  simp [items, e, bTup, x_fin, -List.map_map]
/-! settles -/
def rg (a b : Int) : List Int := (List.range (b - a).toNat).map fun k : Nat => a + k
theorem rangeD_rg (a b : Int) : rangeD a b = (rg a b).map .int := by simp [rangeD, rg]
theorem mem_rg {a b w : Int} : w ∈ rg a b ↔ a ≤ w ∧ w < b := by
  unfold rg
  rw [List.mem_map]
  constructor
  · rintro ⟨k, hk, rfl⟩
    have := List.mem_range.mp hk
    omega
  · intro h
    exact ⟨(w - a).toNat, List.mem_range.mpr (by omega), by omega⟩
def Bs : SF := (sSeq (sAsg 2 (eCall g__law_changed (aCons (eVar 0) (aCons (eVar 1) aNil))))
    (sIf (eAnd (eNotN (eCall g__law_piece (aCons (eVar 0) (aCons (eVar 1) aNil)))) (eNotN (eCall g__law_piece (aCons (eVar 0) (aCons (eVar 2) aNil))))) (sRet (eBl false)) sNil))
def SetAt (ps : List Pc) (w : Int) : Prop := pieceOf ps w = none ∨ pieceOf ps (changedI ps w) = none
theorem settles_turn (ps : List Pc) (w : Int) (x2 : Option W) (μ : Sto) :
    (SetAt ps w ∧ Bs [some (.d (.tuple (ps.map Pc.d))), some (.d (.int w)), x2] μ = .nx [some (.d (.tuple (ps.map Pc.d))), some (.d (.int w)), some (.d (.int (changedI ps w)))] μ) ∨
    (¬ SetAt ps w ∧ Bs [some (.d (.tuple (ps.map Pc.d))), some (.d (.int w)), x2] μ = .rt (.d (.bool false)) μ) := by
  have h1 := lpiece_of_spec ps w μ
  have h2 := lpiece_of_spec ps (changedI ps w) μ
  have h3 := lchanged_spec ps w μ
  cases e1 : pieceOf ps w with
  | none => exact .inl ⟨.inl e1, by rw [e1] at h1; simp [Bs, h1, h3, isNonW_p]⟩
  | some p =>
    cases e2 : pieceOf ps (changedI ps w) with
    | none => exact .inl ⟨.inr e2, by rw [e1] at h1; rw [e2] at h2; simp [Bs, h1, h2, h3, isNonW_p]⟩
    | some q => exact .inr ⟨(fun z => z.elim (fun z => by rw [e1] at z; cases z) (fun z => by rw [e2] at z; cases z)), by rw [e1] at h1; rw [e2] at h2; simp [Bs, h1, h2, h3, isNonW_p]⟩
theorem settles_loop (ps : List Pc) (μ : Sto) : ∀ (l : List Int) (x1 x2 : Option W),
    ((∀ w ∈ l, SetAt ps w) ∧ ∃ ρ', forL (tName 1) Bs (l.map .int) [some (.d (.tuple (ps.map Pc.d))), x1, x2] μ = .nx ρ' μ) ∨
    ((∃ w ∈ l, ¬ SetAt ps w) ∧ forL (tName 1) Bs (l.map .int) [some (.d (.tuple (ps.map Pc.d))), x1, x2] μ = .rt (.d (.bool false)) μ)
  | [], x1, x2 => .inl ⟨(fun w hw => by cases hw), _, rfl⟩
  | w :: l, x1, x2 => by
    have st : forL (tName 1) Bs ((w :: l).map .int) [some (.d (.tuple (ps.map Pc.d))), x1, x2] μ = (match Bs [some (.d (.tuple (ps.map Pc.d))), some (.d (.int w)), x2] μ with
      | .nx ρ2 μ2 => forL (tName 1) Bs (l.map .int) ρ2 μ2
      | .ct ρ2 μ2 => forL (tName 1) Bs (l.map .int) ρ2 μ2
      | .bk ρ2 μ2 => .nx ρ2 μ2
      | .rt w μ2 => .rt w μ2
      | .er x μ2 => .er x μ2
      | .no => .no) := rfl
    rcases settles_turn ps w x2 μ with ⟨h1, e⟩ | ⟨h1, e⟩
    · rw [st, e]
      rcases settles_loop ps μ l (some (.d (.int w))) (some (.d (.int (changedI ps w)))) with ⟨h2, h3⟩ | ⟨⟨v, hv, h2⟩, h3⟩
      · exact .inl ⟨(fun v hv => (List.mem_cons.mp hv).elim (fun z => z ▸ h1) (h2 v)), h3⟩
      · exact .inr ⟨⟨v, List.mem_cons_of_mem _ hv, h2⟩, h3⟩
    · exact .inr ⟨⟨w, List.mem_cons_self, h1⟩, by rw [st, e]⟩
theorem lsettles_spec (ps : List Pc) (μ : Sto) : ∃ b : Bool, g__law_settles [.d (.tuple (ps.map Pc.d))] μ = .ok (.d (.bool b)) μ ∧ (b = true ↔ Settles ps) := by
  rw [show g__law_settles = fnOf 1 3 F__law_settles from rfl, fnOf1]
  have st : F__law_settles = sSeq (sFor (tName 1) (iRange2 (eUn dNeg (eInt 90)) (eInt 120)) Bs) (sRet (eBl true)) := rfl
  have hr : rangeD (-90) 120 = (rg (-90) 120).map .int := rangeD_rg _ _
  have hl : -(LIM : Int) ≤ -90 ∧ (-90 : Int) ≤ LIM ∧ -(LIM : Int) ≤ 120 ∧ (120 : Int) ≤ LIM := by decide
  rw [st]
  rcases settles_loop ps μ (rg (-90) 120) none none with ⟨h1, ρ', h2⟩ | ⟨⟨w, hw, h1⟩, h2⟩
  · refine ⟨true, ?_, ⟨fun _ w a b => h1 w (mem_rg.mpr ⟨a, b⟩), fun _ => rfl⟩⟩
    simp only [x_sSeq, x_sFor, x_iRange2, x_eUn, x_eInt, R.bind_ok, view_d, Option.bind_some, x_negI, Option.map_some, ofO_some, hl, and_self, if_true, R.bindS_ok, hr, List.replicate, Nat.reduceSub, h2]
    simp [x_fin]
  · refine ⟨false, ?_, ⟨(fun z => nomatch z), fun z => absurd (z w (mem_rg.mp hw).1 (mem_rg.mp hw).2) h1⟩⟩
    simp only [x_sSeq, x_sFor, x_iRange2, x_eUn, x_eInt, R.bind_ok, view_d, Option.bind_some, x_negI, Option.map_some, ofO_some, hl, and_self, if_true, R.bindS_ok, hr, List.replicate, Nat.reduceSub, h2]
    simp [x_fin]
end Pure

set_option linter.all false
set_option Elab.async false
set_option maxRecDepth 100000
set_option maxHeartbeats 2000000
/-! The plain law: one piece more, and odd values. -/
namespace Pure
open PySem Mi Mir
theorem ne_str {l : List D} (h : SeqAt.shaped (.tuple l) = true) (s : Str) (hs : SeqAt.shaped (.str s) = true) : dNe (.tuple l) (.str s) = some (.bool true) := by
  rw [dNeD h hs]
  rfl
theorem sh_cv : SeqAt.shaped (.str "change value") = true := by kernel_rfl
theorem sh_pv : SeqAt.shaped (.str "piece value") = true := by kernel_rfl
theorem sh_e : SeqAt.shaped (.str "") = true := by kernel_rfl
/-! one piece more -/
def C7 : EF := eAnd (eNotN (eOp dIx (eVar 7) (eInt 1))) (eOp dLt (eOp dIx (eVar 7) (eInt 1)) (eOp dIx (eVar 1) (eInt 0)))
def A7 : EF := eAnd (eNotN (eOp dIx (eVar 7) (eInt 0))) (eOp dGt (eOp dIx (eVar 7) (eInt 0)) (eOp dIx (eVar 1) (eInt 1)))
theorem c7_spec {q p : Pc} {l : Int} (hl : q.lo = some l) (x0 x2 x3 x4 x5 x6 : Option W) (μ : Sto) : C7 [x0, some (.d q.d), x2, x3, x4, x5, x6, some (.d p.d)] μ = .ok (.d (.bool (blw l p))) μ := by
  have i0 : dIx q.d (.int 0) = some (.int l) := by
    show some (oD q.lo) = _
    rw [hl]
    rfl
  have i1 : dIx p.d (.int 1) = some (oD p.hi) := rfl
  unfold blw
  cases eh : p.hi with
  | none => rw [eh] at i1; simp [C7, i0, i1]
  | some h => rw [eh] at i1; simp [C7, i0, i1]
theorem a7_spec {q p : Pc} {hh : Int} (hl : q.hi = some hh) (x0 x2 x3 x4 x5 x6 : Option W) (μ : Sto) : A7 [x0, some (.d q.d), x2, x3, x4, x5, x6, some (.d p.d)] μ = .ok (.d (.bool (abv hh p))) μ := by
  have i1 : dIx q.d (.int 1) = some (.int hh) := by
    show some (oD q.hi) = _
    rw [hl]
    rfl
  have i0 : dIx p.d (.int 0) = some (oD p.lo) := rfl
  unfold abv
  cases eh : p.lo with
  | none => rw [eh] at i0; simp [A7, i0, i1]
  | some h => rw [eh] at i0; simp [A7, i0, i1]
theorem more_right {ps : List Pc} (h : Sm ps) {q : Pc} (hq : PcOk q) {l hh : Int} (hl : q.lo = some l) (hhi : q.hi = some hh) (μ : Sto) : g__law_more_right [.d (.tuple (ps.map Pc.d)), .d q.d] μ = .ok (.d (.bool true)) μ := by
  have st : F__law_more_right = sSeq (sAsg 2 (eCall g__law_value (aCons (eVar 0) aNil)))
    (sSeq (sAsg 3 (eBlt bTup (aCons (eLc [7] (tName 7) (iSeq (eVar 0)) C7 (eVar 7)) aNil)))
    (sSeq (sAsg 4 (eBlt bTup (aCons (eLc [7] (tName 7) (iSeq (eVar 0)) A7 (eVar 7)) aNil)))
    (sSeq (sAsg 5 (eOp dEq (eOp dAdd (eBlt bLen (aCons (eVar 3) aNil)) (eBlt bLen (aCons (eVar 4) aNil))) (eBlt bLen (aCons (eVar 0) aNil))))
    (sSeq (sAsg 6 (eIf (eAnd (eVar 5) (eOp dLt (eBlt bLen (aCons (eVar 0) aNil)) (eInt 4))) (eOp dAdd (eOp dAdd (eVar 3) (eTup (aCons (eVar 1) aNil))) (eVar 4)) (eStr "change value")))
    (sSeq (sIf (eOp dNe (eOut "Change" g_Change__pieces (nmC clsL) (eBinM "Change" g_Change____or__ (eVar 2) (eVar 1))) (eVar 6)) (sRet (eBl false)) sNil)
    (sSeq (sIf (eOp dNe (eCall g__law_taken (aCons (eVar 2) (aCons (eVar 1) aNil))) (eIf (eOp dNe (eVar 6) (eStr "change value")) (eStr "") (eVar 6))) (sRet (eBl false)) sNil)
    (sRet (eOp dEq (eProp "Change" g_Change__pieces (eVar 2)) (eIf (eOp dNe (eVar 6) (eStr "change value")) (eVar 6) (eVar 0)))))))))) := rfl
  rw [show g__law_more_right = fnOf 2 8 F__law_more_right from rfl, fnOf2, st]
  have lv := lvalue_spec h μ
  have V := VAt.last μ (.tuple (ps.map Pc.d))
  generalize hμ1 : μ ++ [vob (.tuple (ps.map Pc.d))] = μ1 at lv V
  have hlen1 : μ1.length = μ.length + 1 := by rw [← hμ1]; simp
  have lb : ∀ x2 x3 x4 x5 x6, lcL (tName 7) C7 (eVar 7) [some (.d (.tuple (ps.map Pc.d))), some (.d q.d), x2, x3, x4, x5, x6, none] (ps.map Pc.d) [] μ1 = .ok (.d (.list ((ps.filter (blw l)).map Pc.d))) μ1 := fun x2 x3 x4 x5 x6 => by
    rw [lc_filterT Pc.d Pc.d (blw l) ps [] fun p hp => ⟨_, rfl, c7_spec hl _ _ _ _ _ _ μ1, fun _ => rfl⟩]
    rfl
  have la : ∀ x2 x3 x4 x5 x6, lcL (tName 7) A7 (eVar 7) [some (.d (.tuple (ps.map Pc.d))), some (.d q.d), x2, x3, x4, x5, x6, none] (ps.map Pc.d) [] μ1 = .ok (.d (.list ((ps.filter (abv hh)).map Pc.d))) μ1 := fun x2 x3 x4 x5 x6 => by
    rw [lc_filterT Pc.d Pc.d (abv hh) ps [] fun p hp => ⟨_, rfl, a7_spec hhi _ _ _ _ _ _ μ1, fun _ => rfl⟩]
    rfl
  have m := more_ch h hq hl hhi
  have h3 := h.three
  have hbl : (ps.filter (blw l)).length ≤ ps.length := List.length_filter_le _ _
  have hal : (ps.filter (abv hh)).length ≤ ps.length := List.length_filter_le _ _
  have hlim : (2500 : Nat) ≤ LIM := by decide
  have lt4 : decide ((ps.length : Int) < 4) = true := decide_eq_true (by omega)
  have os := or_ok V h.len hq hl
  have vs := value_of_spec _ (sh_psd (newPs q l ps)) μ1
  rw [vs] at os
  split at m
  · rename_i hc
    obtain ⟨hch, hnew⟩ := m
    have hf := fitsCh_ok hch
    rw [if_pos hf] at os
    have ps2 := pieces_spec (VAt.last μ1 (.tuple ((newPs q l ps).map Pc.d)))
    have V2 := V.app [vob (.tuple ((newPs q l ps).map Pc.d))]
    have tk := taken_ok V2 h.len hq hl
    rw [if_pos hf] at tk
    have V3 : VAt ((μ1 ++ [vob (.tuple ((newPs q l ps).map Pc.d))]).set μ.length (vob (.tuple ((newPs q l ps).map Pc.d)))) μ.length (.tuple ((newPs q l ps).map Pc.d)) := ⟨by
      rw [List.getElem?_set_self V2.lt]⟩
    have ps3 := pieces_spec V3
    have ml2 := (VAt.last μ1 (.tuple ((newPs q l ps).map Pc.d))).mins
    have d1 : dAdd (.tuple ((ps.filter (blw l)).map Pc.d)) (.tuple [q.d]) = some (.tuple (((ps.filter (blw l)) ++ [q]).map Pc.d)) := by
      show (if _ then _ else _) = _
      rw [if_pos (by simp only [List.length_map, List.length_cons, List.length_nil]; omega), List.map_append]
      rfl
    have d2 : dAdd (.tuple (((ps.filter (blw l)) ++ [q]).map Pc.d)) (.tuple ((ps.filter (abv hh)).map Pc.d)) = some (.tuple ((newPs q l ps).map Pc.d)) := by
      show (if _ then _ else _) = _
      rw [if_pos (by simp only [List.length_map, List.length_append, List.length_cons, List.length_nil]; omega), ← List.map_append, hnew]
    have eqn : (((ps.filter (blw l)).length : Int) + ((ps.filter (abv hh)).length : Int) == (ps.length : Int)) = true := by
      rw [beq_iff_eq]
      omega
    have n1 := ne_self (sh_psd (newPs q l ps))
    have n2 := ne_str (sh_psd (newPs q l ps)) "change value" sh_cv
    have n3 := ne_self sh_e
    have e1 := eq_self (sh_psd (newPs q l ps))
    simp only [x_sSeq, x_sAsg, x_eCall, x_aCons, x_aNil, x_eVar, List.getElem?_cons_zero, List.getElem?_cons_succ, R.bind_ok, lv, R.bindS_ok, List.set_cons_succ, List.set_cons_zero, List.replicate, Nat.reduceSub, x_eBlt, x_eLc, x_iSeq, items, ofO_some, wipeE, lb, la,
      views, view_d, Option.bind_some, Option.map_some, bTup, bLen, List.length_map, x_eOp, x_addI, dEqI, eqn, x_eIf, x_eAnd, R.test_ok, if_true, x_eInt, x_ltI, lt4, x_eTup, asDs_cons, asDs_nil, d1, d2, x_sIf, x_eOut, x_eBinM, V.mins, os, ml2, ps2, x_noEr1, n1, RS.test_ok,
      Bool.false_eq_true, if_false, x_sNil, tk, x_eStr, n2, n3, x_sRet, x_eProp, V3.mins, ps3, e1]
    have tkl : List.take μ.length ((μ1 ++ [vob (.tuple ((newPs q l ps).map Pc.d))]).set μ.length (vob (.tuple ((newPs q l ps).map Pc.d)))) = μ := by
      rw [← hμ1]
      simp
    simp only [fin, tkl]
  · rename_i hc
    rw [if_neg (by rw [m]; decide)] at os
    have tk := taken_ok V h.len hq hl
    rw [if_neg (by rw [m]; decide)] at tk
    have ps3 := pieces_spec V
    have eqn : (((ps.filter (blw l)).length : Int) + ((ps.filter (abv hh)).length : Int) == (ps.length : Int)) = false := by
      rw [beq_eq_false_iff_ne]
      omega
    have n1 := ne_self sh_cv
    have e1 := eq_self (sh_psd ps)
    simp only [x_sSeq, x_sAsg, x_eCall, x_aCons, x_aNil, x_eVar, List.getElem?_cons_zero, List.getElem?_cons_succ, R.bind_ok, lv, R.bindS_ok, List.set_cons_succ, List.set_cons_zero, List.replicate, Nat.reduceSub, x_eBlt, x_eLc, x_iSeq, items, ofO_some, wipeE, lb, la,
      views, view_d, Option.bind_some, Option.map_some, bTup, bLen, List.length_map, x_eOp, x_addI, dEqI, eqn, x_eIf, x_eAnd, R.test_ok, if_true, x_sIf, x_eOut, x_eBinM, V.mins, os, nm_change, n1, RS.test_ok,
      Bool.false_eq_true, if_false, x_sNil, tk, x_eStr, x_sRet, x_eProp, ps3, x_noEr1, e1]
    have tkl : List.take μ.length μ1 = μ := by
      rw [← hμ1]
      simp
    simp only [fin, tkl]
end Pure

set_option linter.all false
set_option Elab.async false
set_option maxRecDepth 100000
set_option maxHeartbeats 2000000
/-! The plain law: odd values are refused. -/
namespace Pure
open PySem Mi Mir
def B1 : SF := sIf (eOr (eOp dNe (eTry (nmC clsL) (eBinM "Change" g_Change____or__ (eVar 0) (eVar 2))) (eStr "piece value")) (eOp dNe (eCall g__law_taken (aCons (eVar 0) (aCons (eVar 2) aNil))) (eStr "piece value"))) (sRet (eBl false)) sNil
def B2 : SF := (sSeq (sAsg 3 (eLstM (aCons (eTry (nmC clsL) (eBinM "Change" g_Change____sub__ (eVar 0) (eVar 2))) aNil)))
    (sSeq (sDrop (eApp (eVar 3) (eTry (nmC clsL) (eBinM "Change" g_Change____getitem__ (eVar 0) (eVar 2)))))
    (sIf (eOp dNe (eVar 3) (eOp dMul (eLst (aCons (eStr "index value") aNil)) (eInt 2))) (sRet (eBl false)) sNil)))
def B3 : SF := (sSeq (sAsg 3 (eLstM (aCons (eTry (nmC clsL) (eBinM "Change" g_Change____rshift__ (eVar 0) (eVar 2))) aNil)))
    (sSeq (sDrop (eApp (eVar 3) (eTry (nmC clsL) (eCalM "Change" g_Change____call__ (eVar 0) (aCons (eVar 2) aNil)))))
    (sIf (eOp dNe (eVar 3) (eOp dMul (eLst (aCons (eStr "worth value") aNil)) (eInt 2))) (sRet (eBl false)) sNil)))
theorem mul_iv : dMul (.list [.str "index value"]) (.int 2) = some (.list [.str "index value", .str "index value"]) := by kernel_rfl
theorem mul_wv : dMul (.list [.str "worth value"]) (.int 2) = some (.list [.str "worth value", .str "worth value"]) := by kernel_rfl
theorem mul_uv : dMul (.list [.str "unlike value"]) (.int 3) = some (.list [.str "unlike value", .str "unlike value", .str "unlike value"]) := by kernel_rfl
theorem sh_iv2 : SeqAt.shaped (.list [.str "index value", .str "index value"]) = true := by kernel_rfl
theorem sh_wv2 : SeqAt.shaped (.list [.str "worth value", .str "worth value"]) = true := by kernel_rfl
theorem sh_uv3 : SeqAt.shaped (.list [.str "unlike value", .str "unlike value", .str "unlike value"]) = true := by kernel_rfl
section
variable {k : Nat} {ps : List Pc}
theorem odd1_loop (x1 x3 : Option W) {μ : Sto} (h : VAt μ k (.tuple (ps.map Pc.d))) : ∀ (l : List D) (x2 : Option W), (∀ d ∈ l, SeqAt.shaped d = true ∧ pieceD d = false) → ∃ y2, forL (tName 2) B1 l [some (.m k), x1, x2, x3] μ = .nx [some (.m k), x1, y2, x3] μ
  | [], x2, _ => ⟨x2, rfl⟩
  | d :: l, x2, hd => by
    obtain ⟨h1, h2⟩ := hd d List.mem_cons_self
    obtain ⟨y2, e⟩ := odd1_loop x1 x3 h l (some (.d d)) fun d hd' => hd d (List.mem_cons_of_mem _ hd')
    refine ⟨y2, ?_⟩
    have o := or_bad h h1 h2
    have t := taken_bad h h1 h2
    have n := ne_self sh_pv
    have one : B1 [some (.m k), x1, some (.d d), x3] μ = .nx [some (.m k), x1, some (.d d), x3] μ := by
      simp [B1, h.mins, o, t, n, nm_piece]
    have st : forL (tName 2) B1 (d :: l) [some (.m k), x1, x2, x3] μ = (match B1 [some (.m k), x1, some (.d d), x3] μ with
      | .nx ρ2 μ2 => forL (tName 2) B1 l ρ2 μ2
      | .ct ρ2 μ2 => forL (tName 2) B1 l ρ2 μ2
      | .bk ρ2 μ2 => .nx ρ2 μ2
      | .rt w μ2 => .rt w μ2
      | .er x μ2 => .er x μ2
      | .no => .no) := rfl
    rw [st, one]
    exact e
def notIx (n : Nat) : D → Prop
  | .int i => ¬ (0 ≤ i ∧ i < n)
  | _ => True
def notWo : D → Prop
  | .int i => ¬ (-far ≤ i ∧ i ≤ far)
  | _ => True
theorem sub_no {μ : Sto} (h : VAt μ k (.tuple (ps.map Pc.d))) (hl : ps.length ≤ 4) {d : D} (hd : notIx ps.length d) : g_Change____sub__ [.m k, .d d] μ = .er ⟨"InvalidIndex", none⟩ μ := by
  rw [sub_spec h (by simpa using hl) (sh_psd ps) d]
  cases d with
  | int i => exact if_neg (by rw [List.length_map]; exact hd)
  | _ => rfl
theorem get_no {μ : Sto} (h : VAt μ k (.tuple (ps.map Pc.d))) {d : D} (hd : notIx ps.length d) : g_Change____getitem__ [.m k, .d d] μ = .er ⟨"InvalidIndex", none⟩ μ := by
  rw [getitem_spec h d]
  cases d with
  | int i => exact if_neg (by rw [List.length_map]; exact hd)
  | _ => rfl
theorem shift_no {μ : Sto} (h : VAt μ k (.tuple (ps.map Pc.d))) {d : D} (hd : notWo d) : g_Change____rshift__ [.m k, .d d] μ = .er ⟨"InvalidWorth", none⟩ μ := by
  rw [rshift_spec h d]
  cases d with
  | int i => exact if_neg hd
  | _ => rfl
theorem call_no {μ : Sto} (h : VAt μ k (.tuple (ps.map Pc.d))) {d : D} (hd : notWo d) : g_Change____call__ [.m k, .d d] μ = .er ⟨"InvalidWorth", none⟩ μ := by
  rw [call_spec h d]
  cases d with
  | int i => exact if_neg hd
  | _ => rfl
theorem odd2_loop (x1 : Option W) (hl : ps.length ≤ 4) : ∀ (l : List D) (x2 x3 : Option W) (μ : Sto), VAt μ k (.tuple (ps.map Pc.d)) → (∀ d ∈ l, notIx ps.length d) → ∃ y2 y3 ν, forL (tName 2) B2 l [some (.m k), x1, x2, x3] μ = .nx [some (.m k), x1, y2, y3] (μ ++ ν)
  | [], x2, x3, μ, _, _ => ⟨x2, x3, [], by simp [forL]⟩
  | d :: l, x2, x3, μ, h, hd => by
    have h1 := hd d List.mem_cons_self
    have V2 := h.app [some (.lst [.str "index value"])]
    obtain ⟨y2, y3, ν, e⟩ := odd2_loop x1 hl l (some (.d d)) (some (.m μ.length)) (μ ++ [some (.lst [.str "index value", .str "index value"])]) (h.app _) fun d hd' => hd d (List.mem_cons_of_mem _ hd')
    refine ⟨y2, y3, [some (.lst [.str "index value", .str "index value"])] ++ ν, ?_⟩
    have o := sub_no h hl h1
    have t := get_no V2 h1
    have n := ne_self sh_iv2
    have hlim : 1 < LIM := by decide
    have one : B2 [some (.m k), x1, some (.d d), x3] μ = .nx [some (.m k), x1, some (.d d), some (.m μ.length)] (μ ++ [some (.lst [.str "index value", .str "index value"])]) := by
      simp [B2, h.mins, o, nm_index, V2.mins, t, ml_last, hlim, set_last, mul_iv, n]
    have st : forL (tName 2) B2 (d :: l) [some (.m k), x1, x2, x3] μ = (match B2 [some (.m k), x1, some (.d d), x3] μ with
      | .nx ρ2 μ2 => forL (tName 2) B2 l ρ2 μ2
      | .ct ρ2 μ2 => forL (tName 2) B2 l ρ2 μ2
      | .bk ρ2 μ2 => .nx ρ2 μ2
      | .rt w μ2 => .rt w μ2
      | .er x μ2 => .er x μ2
      | .no => .no) := rfl
    rw [st, one]
    dsimp only
    rw [e, List.append_assoc]
theorem odd3_loop (x1 : Option W) : ∀ (l : List D) (x2 x3 : Option W) (μ : Sto), VAt μ k (.tuple (ps.map Pc.d)) → (∀ d ∈ l, notWo d) → ∃ y2 y3 ν, forL (tName 2) B3 l [some (.m k), x1, x2, x3] μ = .nx [some (.m k), x1, y2, y3] (μ ++ ν)
  | [], x2, x3, μ, _, _ => ⟨x2, x3, [], by simp [forL]⟩
  | d :: l, x2, x3, μ, h, hd => by
    have h1 := hd d List.mem_cons_self
    have V2 := h.app [some (.lst [.str "worth value"])]
    obtain ⟨y2, y3, ν, e⟩ := odd3_loop x1 l (some (.d d)) (some (.m μ.length)) (μ ++ [some (.lst [.str "worth value", .str "worth value"])]) (h.app _) fun d hd' => hd d (List.mem_cons_of_mem _ hd')
    refine ⟨y2, y3, [some (.lst [.str "worth value", .str "worth value"])] ++ ν, ?_⟩
    have o := shift_no h h1
    have t := call_no V2 h1
    have n := ne_self sh_wv2
    have hlim : 1 < LIM := by decide
    have one : B3 [some (.m k), x1, some (.d d), x3] μ = .nx [some (.m k), x1, some (.d d), some (.m μ.length)] (μ ++ [some (.lst [.str "worth value", .str "worth value"])]) := by
      simp [B3, h.mins, o, nm_worth, V2.mins, t, ml_last, hlim, set_last, mul_wv, n]
    have st : forL (tName 2) B3 (d :: l) [some (.m k), x1, x2, x3] μ = (match B3 [some (.m k), x1, some (.d d), x3] μ with
      | .nx ρ2 μ2 => forL (tName 2) B3 l ρ2 μ2
      | .ct ρ2 μ2 => forL (tName 2) B3 l ρ2 μ2
      | .bk ρ2 μ2 => .nx ρ2 μ2
      | .rt w μ2 => .rt w μ2
      | .er x μ2 => .er x μ2
      | .no => .no) := rfl
    rw [st, one]
    dsimp only
    rw [e, List.append_assoc]
theorem lk_like (d : D) : List.lookup ("like" : Str) [(("kept" : Str), d)] = none := rfl
def L4 (d : D) : List D := [.none, d, .int 1]
theorem odd4 (x1 x3 : Option W) {μ : Sto} (h : VAt μ k (.tuple (ps.map Pc.d))) (d : D) : lcL (tName 2) eYes (eTry (nmC clsL) (eMeth "Change" "like" g_Change__like (eVar 0) (aCons (eVar 2) aNil))) [some (.m k), x1, none, x3] (L4 d) [] μ = .ok (.d (.list [.str "unlike value", .str "unlike value", .str "unlike value"])) μ := by
  rw [lc_map (fun _ => .str "unlike value") (L4 d) [] fun e he => ⟨[some (.m k), x1, some (.d e), x3], rfl, rfl, by
    simp [h.mins, lk_like, likeD_spec, nm_unlike]⟩]
  rfl
theorem piece_short {ps : List Pc} (h : ps.length ≤ 3) : pieceD (.tuple (ps.map Pc.d)) = false := by
  match ps, h with
  | [], _ => rfl
  | [a], _ => rfl
  | [a, b], _ => rfl
  | [a, b, c], _ => rfl
theorem bad_right (hsm : Sm ps) {μ : Sto} (h : VAt μ k (.tuple (ps.map Pc.d))) : g__law_bad_right [.m k, .d (.tuple (ps.map Pc.d))] μ = .ok (.d (.bool true)) μ := by
  have st : F__law_bad_right = sSeq (sFor (tName 2) (iSeq (eTup (aCons eNon (aCons (eTup aNil) (aCons (eVar 1) (aCons (eTup (aCons (eInt 0) (aCons (eInt 9) (aCons (eStr "add") (aCons (eInt 0) aNil))))) (aCons (eTup (aCons (eInt 0) (aCons (eInt 9) (aCons (eStr "Add") (aCons (eInt 1) aNil))))) (aCons (eLst (aCons (eInt 0) (aCons (eInt 9) (aCons (eStr "add") (aCons (eInt 1) aNil))))) (aCons (eTup (aCons (eInt 9) (aCons (eInt 0) (aCons (eStr "add") (aCons (eInt 1) aNil))))) aNil))))))))) B1)
    (sSeq (sFor (tName 2) (iSeq (eTup (aCons eNon (aCons (eBl true) (aCons (eUn dNeg (eInt 1)) (aCons (eBlt bLen (aCons (eVar 1) aNil)) (aCons (eStr "0") aNil))))))) B2)
    (sSeq (sFor (tName 2) (iSeq (eTup (aCons eNon (aCons (eBl true) (aCons (eOp dAdd (eOp dPow (eInt 10) (eInt 30)) (eInt 1)) (aCons (eStr "0") aNil)))))) B3)
    (sSeq (sIf (eOp dNe (eLc [2] (tName 2) (iSeq (eTup (aCons eNon (aCons (eVar 1) (aCons (eInt 1) aNil))))) eYes (eTry (nmC clsL) (eMeth "Change" "like" g_Change__like (eVar 0) (aCons (eVar 2) aNil)))) (eOp dMul (eLst (aCons (eStr "unlike value") aNil)) (eInt 3))) (sRet (eBl false)) sNil)
    (sRet (eOp dEq (eProp "Change" g_Change__pieces (eVar 0)) (eVar 1)))))) := rfl
  rw [show g__law_bad_right = fnOf 2 4 F__law_bad_right from rfl, fnOf2, st]
  have p30 : dPow (.int 10) (.int 30) = some (.int far) := by kernel_rfl
  obtain ⟨y2, e1⟩ := odd1_loop (some (.d (.tuple (ps.map Pc.d)))) none h [.none, .tuple [], .tuple (ps.map Pc.d), .tuple [.int 0, .int 9, .str "add", .int 0], .tuple [.int 0, .int 9, .str "Add", .int 1], .list [.int 0, .int 9, .str "add", .int 1], .tuple [.int 9, .int 0, .str "add", .int 1]] none (by
    intro d hd
    simp only [List.mem_cons, List.not_mem_nil, or_false] at hd
    rcases hd with rfl | rfl | rfl | rfl | rfl | rfl | rfl
    · exact ⟨rfl, rfl⟩
    · exact ⟨rfl, rfl⟩
    · exact ⟨sh_psd ps, piece_short hsm.three⟩
    · exact ⟨by kernel_rfl, by kernel_rfl⟩
    · exact ⟨by kernel_rfl, by kernel_rfl⟩
    · exact ⟨by kernel_rfl, by kernel_rfl⟩
    · exact ⟨by kernel_rfl, by kernel_rfl⟩)
  obtain ⟨z2, z3, ν2, e2⟩ := odd2_loop (some (.d (.tuple (ps.map Pc.d)))) hsm.ch.four [.none, .bool true, .int (-1), .int (ps.length : Int), .str "0"] y2 none μ h (by
    intro d hd
    simp only [List.mem_cons, List.not_mem_nil, or_false] at hd
    rcases hd with rfl | rfl | rfl | rfl | rfl
    · exact True.intro
    · exact True.intro
    · show ¬ (0 ≤ -1 ∧ _)
      omega
    · show ¬ (_ ∧ (ps.length : Int) < ps.length)
      omega
    · exact True.intro)
  have V2 := h.app ν2
  obtain ⟨w2, w3, ν3, e3⟩ := odd3_loop (some (.d (.tuple (ps.map Pc.d)))) [.none, .bool true, .int (far + 1), .str "0"] z2 z3 (μ ++ ν2) V2 (by
    intro d hd
    simp only [List.mem_cons, List.not_mem_nil, or_false] at hd
    rcases hd with rfl | rfl | rfl | rfl
    · exact True.intro
    · exact True.intro
    · show ¬ (_ ∧ far + 1 ≤ far)
      omega
    · exact True.intro)
  have V3 := V2.app ν3
  have o4 := odd4 (some (.d (.tuple (ps.map Pc.d)))) w3 V3 (.tuple (ps.map Pc.d))
  unfold L4 at o4
  have n := ne_self sh_uv3
  have pc := pieces_spec V3
  have eq := eq_self (sh_psd ps)
  simp only [x_sSeq, x_sFor, x_iSeq, x_eTup, x_eLst, x_aCons, x_aNil, x_eNon, x_eVar, x_eInt, x_eStr, x_eBl, List.getElem?_cons_zero, List.getElem?_cons_succ, R.bind_ok, asDs_cons, asDs_nil, Option.map_some, ofO_some, items, R.bindS_ok, List.replicate, Nat.reduceSub, e1,
    x_eUn, view_d, Option.bind_some, x_negI, x_eBlt, views, bLen, List.length_map, e2, x_eOp, p30, x_addI, e3, x_sIf, x_eLc, wipeE, List.set_cons_succ, List.set_cons_zero, o4, mul_uv, n, RS.test_ok, Bool.false_eq_true, if_false, x_sNil, x_sRet, x_eProp, V3.mins, if_true, pc, x_noEr1, eq]
  have tk : List.take μ.length (μ ++ ν2 ++ ν3) = μ := by rw [List.append_assoc]; simp
  simp only [fin, tk]
end
end Pure

set_option linter.all false
set_option Elab.async false
set_option maxRecDepth 100000
set_option maxHeartbeats 4000000
/-! The plain law of changes as values: the steps of one cell. -/
namespace Pure
open PySem Mi Mir
def S1 : SF := (sAsg 2 (eCall g__law_drum (aCons (eVar 1) (aCons (eInt 9) aNil))))
def S2 : SF := (sPar 3 4 (eCall g__law_change (aCons (eVar 2) (aCons (eInt 9) aNil))) (eCall g__law_change (aCons (eVar 2) (aCons (eInt 9) aNil))))
def S3 : SF := (sPar 5 6 (eCall g__law_value (aCons (eVar 3) aNil)) (eCall g__law_value (aCons (eVar 4) aNil)))
def S4 : SF := (sAsg 7 (eOp dSub (eCall g__law_roll (aCons (eVar 2) (aCons (eInt 99) aNil))) (eInt 50)))
def S5 : SF := (sIf (eOp dNe (eLst (aCons (eProp "Change" g_Change__pieces (eVar 5)) (aCons (eProp "Change" g_Change__pieces (eBinM "Change" g_Change____rshift__ (eVar 5) (eVar 7))) (aCons (eProp "Change" g_Change__pieces (eUnM "Change" g_Change____invert__ (eVar 5))) aNil)))) (eLst (aCons (eVar 3) (aCons (eCall g__law_moved (aCons (eVar 3) (aCons (eVar 7) aNil))) (aCons (eCall g__law_turned (aCons (eVar 3) aNil)) aNil))))) (sRet (eBl false)) sNil)
def S6 : SF := (sIf (eOr (eOp dNe (eLc [9] (tName 9) (iRange1 (eBlt bLen (aCons (eVar 3) aNil))) eYes (eBinM "Change" g_Change____getitem__ (eVar 5) (eVar 9))) (eBlt bLst (aCons (eVar 3) aNil))) (eOp dNe (eLenM "Change" g_Change____len__ (eVar 5)) (eBlt bLen (aCons (eVar 3) aNil)))) (sRet (eBl false)) sNil)
def S7 : SF := (sFor (tName 8) (iRange2 (eUn dNeg (eInt 30)) (eInt 60)) (sIf (eOr (eOp dNe (eCalM "Change" g_Change____call__ (eVar 5) (aCons (eVar 8) aNil)) (eCall g__law_changed (aCons (eVar 3) (aCons (eVar 8) aNil)))) (eOp dNe (eInM "Change" g_Change____contains__ false (eVar 8) (eVar 5)) (eNotN (eCall g__law_piece (aCons (eVar 3) (aCons (eVar 8) aNil)))))) (sRet (eBl false)) sNil))
def S8 : SF := (sIf (eOr (eOp dNe (eTruM "Change" g_Change____bool__ (eVar 5)) (eCall g__law_settles (aCons (eVar 3) aNil))) (eOr (eInM "Change" g_Change____contains__ false eNon (eVar 5)) (eOr (eInM "Change" g_Change____contains__ false (eStr "0") (eVar 5)) (eOr (eInM "Change" g_Change____contains__ false (eBl true) (eVar 5)) (eInM "Change" g_Change____contains__ false (eOp dIx (eVar 3) (eInt 0)) (eVar 5)))))) (sRet (eBl false)) sNil)
def S9 : SF := (sFor (tName 9) (iRange1 (eBlt bLen (aCons (eVar 3) aNil))) (sSeq (sAsg 10 (eOp dAdd (eSl dCut (eVar 3) none (some (eVar 9))) (eSl dCut (eVar 3) (some (eOp dAdd (eVar 9) (eInt 1))) none)))
    (sIf (eOp dNe (eOut "Change" g_Change__pieces (nmC clsL) (eBinM "Change" g_Change____sub__ (eVar 5) (eVar 9))) (eIf (eOp dNe (eVar 10) (eTup aNil)) (eVar 10) (eStr "change value"))) (sRet (eBl false)) sNil)))
def S10 : SF := (sAsg 11 (eOp dAdd (eUn dNeg (eInt 30)) (eCall g__law_roll (aCons (eVar 2) (aCons (eInt 90) aNil)))))
def S11 : SF := (sIf (eOr (eNot (eCall g__law_more_right (aCons (eVar 3) (aCons (eTup (aCons (eVar 11) (aCons (eOp dAdd (eVar 11) (eCall g__law_roll (aCons (eVar 2) (aCons (eInt 9) aNil)))) (aCons (eStr "set") (aCons (eInt 3) aNil))))) aNil)))) (eNot (eCall g__law_bad_right (aCons (eVar 5) (aCons (eVar 3) aNil))))) (sRet (eBl false)) sNil)
def S12 : SF := (sAsg 12 (eOp dEq (eLc [8] (tName 8) (iRange2 (eUn dNeg (eInt 90)) (eInt 120)) (eOp dNe (eCall g__law_changed (aCons (eVar 3) (aCons (eVar 8) aNil))) (eCall g__law_changed (aCons (eVar 4) (aCons (eVar 8) aNil)))) (eVar 8)) (eLst aNil)))
def S13 : SF := (sIf (eOr (eOp dNe (eMeth "Change" "like" g_Change__like (eVar 5) (aCons (eVar 6) aNil)) (eVar 12)) (eOr (eOp dNe (eEqM "Change" g_Change____eq__ (eVar 5) (eVar 6)) (eOp dEq (eVar 3) (eVar 4))) (eNot (eMeth "Change" "like" g_Change__like (eVar 5) (aCons (eCall g__law_value (aCons (eVar 3) aNil)) aNil))))) (sRet (eBl false)) sNil)
def S14 : SF := (sIf (eOr (eEqM "Change" g_Change____eq__ (eVar 5) (eVar 3)) (eNeM "Change" g_Change____eq__ (eCall g__law_value (aCons (eVar 3) aNil)) (eVar 5))) (sRet (eBl false)) sNil)
def SB : SF := (sSeq S1 (sSeq S2 (sSeq S3 (sSeq S4 (sSeq S5 (sSeq S6 (sSeq S7 (sSeq S8 (sSeq S9 (sSeq S10 (sSeq S11 (sSeq S12 (sSeq S13 S14)))))))))))))
def SI : IF := (iSeq (eSl dCut (eOp dAdd (eLst (aCons (eInt 0) aNil)) (eVar 0)) none (some (eInt 8))))
def T1 : SF := (sAsg 13 (eTup (aCons (eInt 0) (aCons (eInt 9) (aCons (eStr "add") (aCons (eInt 1) aNil))))))
def T2 : SF := (sAsg 14 (eLstM (aCons (eTry (nmC clsL) (eNewS "Change" g_Change____init__ aNil)) (aCons (eStr "") (aCons (eStr "") (aCons (eStr "") aNil))))))
def T3 : SF := (sSub (eVar 14) (eInt 1) (eTry (nmC clsL) (eNewS "Change" g_Change____init__ (aCons eNon aNil))))
def T4 : SF := (sSub (eVar 14) (eInt 2) (eTry (nmC clsL) (eNewS "Change" g_Change____init__ (aCons (eVar 13) (aCons (eVar 13) aNil)))))
def T5 : SF := (sSub (eVar 14) (eInt 3) (eTry (nmC clsL) (eNewS "Change" g_Change____init__ (aCons (eTup (aCons (eInt 1) (aCons (eInt 1) (aCons (eStr "set") (aCons (eInt 0) aNil))))) (aCons (eTup (aCons (eInt 2) (aCons (eInt 2) (aCons (eStr "set") (aCons (eInt 0) aNil))))) (aCons (eTup (aCons (eInt 3) (aCons (eInt 3) (aCons (eStr "set") (aCons (eInt 0) aNil))))) (aCons (eTup (aCons (eInt 4) (aCons (eInt 4) (aCons (eStr "set") (aCons (eInt 0) aNil))))) (aCons (eVar 13) aNil))))))))
def T6 : SF := (sIf (eOp dNe (eVar 14) (eOp dMul (eLst (aCons (eStr "change value") aNil)) (eInt 4))) (sRet (eBl false)) sNil)
def T7 : SF := (sAsg 15 (eNewS "Change" g_Change____init__ (aCons (eTup (aCons (eOp dPow (eInt 10) (eInt 30)) (aCons eNon (aCons (eStr "add") (aCons (eInt 1) aNil))))) aNil)))
def T8 : SF := (sIf (eOr (eOp dNe (eTry (nmC clsL) (eBinM "Change" g_Change____rshift__ (eVar 15) (eInt 1))) (eStr "change value")) (eOp dNe (eProp "Change" g_Change__pieces (eBinM "Change" g_Change____rshift__ (eVar 15) (eUn dNeg (eInt 1)))) (eTup (aCons (eTup (aCons (eOp dSub (eOp dPow (eInt 10) (eInt 30)) (eInt 1)) (aCons eNon (aCons (eStr "add") (aCons (eInt 1) aNil))))) aNil)))) (sRet (eBl false)) sNil)
def T9 : SF := (sRet (eAnd (eOp dEq (eInt (4)) (eInt 4)) (eAnd (eOp dIsB (eTruM "Change" g_Change____bool__ (eNewS "Change" g_Change____init__ (aCons (eTup (aCons (eInt 0) (aCons (eInt 9) (aCons (eStr "add") (aCons (eInt 10) aNil))))) aNil))) (eBl true)) (eAnd (eInM "Change" g_Change____contains__ false (eOp dPow (eInt 10) (eInt 39)) (eVar 15)) (eInM "Change" g_Change____contains__ true (eUn dNeg (eOp dPow (eInt 10) (eInt 39))) (eVar 15))))))
theorem F_eq : F_law = (sSeq (sFor (tName 1) SI SB) (sSeq T1 (sSeq T2 (sSeq T3 (sSeq T4 (sSeq T5 (sSeq T6 (sSeq T7 (sSeq T8 T9))))))))) := rfl

structure InvS (μ : Sto) (kd k5 k6 : Nat) (ps qs : List Pc) : Prop where
  dr : DrumAt μ kd
  v : VAt μ k5 (.tuple (ps.map Pc.d))
  w : VAt μ k6 (.tuple (qs.map Pc.d))
  n5 : kd ≠ k5
  n6 : kd ≠ k6
theorem InvS.app {μ : Sto} {kd k5 k6 : Nat} {ps qs : List Pc} (I : InvS μ kd k5 k6 ps qs) (ν : Sto) : InvS (μ ++ ν) kd k5 k6 ps qs := ⟨I.dr.app ν, I.v.app ν, I.w.app ν, I.n5, I.n6⟩
theorem InvS.roll {μ μ' : Sto} {kd k5 k6 : Nat} {ps qs : List Pc} (I : InvS μ kd k5 k6 ps qs) (r : Rolled kd μ μ') : InvS μ' kd k5 k6 ps qs := ⟨r.at_ I.dr.lt, ⟨by rw [r.ne I.n5]; exact I.v.at_⟩, ⟨by rw [r.ne I.n6]; exact I.w.at_⟩, I.n5, I.n6⟩
def en (kd k5 k6 : Nat) (ps qs : List Pc) (t : Int) (x0 c wo at_ du lo al a b f : Option W) : Mi.Env := [x0, c, some (.m kd), some (.d (.tuple (ps.map Pc.d))), some (.d (.tuple (qs.map Pc.d))), some (.m k5), some (.m k6), some (.d (.int t)), wo, at_, du, lo, al, a, b, f]
section
variable {μ : Sto} {kd k5 k6 : Nat} {ps qs : List Pc} {t : Int} {x0 c wo at_ du lo al a b f : Option W}
theorem s5 (I : InvS μ kd k5 k6 ps qs) (hp : Sm ps) (h1 : -50 ≤ t) (h2 : t ≤ 50) : ∃ ν, S5 (en kd k5 k6 ps qs t x0 c wo at_ du lo al a b f) μ = .nx (en kd k5 k6 ps qs t x0 c wo at_ du lo al a b f) (μ ++ ν) := by
  have fb := far_big
  have pv := pieces_spec I.v
  have rs := rshift_spec I.v (.int t)
  have rs : g_Change____rshift__ [.m k5, .d (.int t)] μ = if -far ≤ t ∧ t ≤ far then g_value_of [.d (.tuple ((ps.map (Pc.mv t)).map Pc.d))] μ else .er ⟨"InvalidWorth", none⟩ μ := rs
  rw [if_pos ⟨by omega, by omega⟩, value_of_spec _ (sh_psd _), if_pos (fitsCh_ok (mv_ch hp h1 h2))] at rs
  generalize hμ5 : μ ++ [vob (.tuple ((ps.map (Pc.mv t)).map Pc.d))] = μ5 at rs
  have L5 : VAt μ5 μ.length (.tuple ((ps.map (Pc.mv t)).map Pc.d)) := by rw [← hμ5]; exact VAt.last _ _
  have V5 : VAt μ5 k5 (.tuple (ps.map Pc.d)) := by rw [← hμ5]; exact I.v.app _
  have p5 := pieces_spec L5
  have iv := invert_spec V5
  rw [value_of_spec _ (sh_psd _), if_pos (fitsCh_ok (turn_ch hp.ch))] at iv
  have L6 := VAt.last μ5 (.tuple ((turnPs ps).map Pc.d))
  have p6 := pieces_spec L6
  refine ⟨[vob (.tuple ((ps.map (Pc.mv t)).map Pc.d)), vob (.tuple ((turnPs ps).map Pc.d))], ?_⟩
  have e : μ ++ [vob (.tuple ((ps.map (Pc.mv t)).map Pc.d)), vob (.tuple ((turnPs ps).map Pc.d))] = μ5 ++ [vob (.tuple ((turnPs ps).map Pc.d))] := by rw [← hμ5, List.append_assoc]; rfl
  rw [e]
  have n : dNe (.list [.tuple (ps.map Pc.d), .tuple ((ps.map (Pc.mv t)).map Pc.d), .tuple ((turnPs ps).map Pc.d)]) (.list [.tuple (ps.map Pc.d), .tuple ((ps.map (Pc.mv t)).map Pc.d), .tuple ((turnPs ps).map Pc.d)]) = some (.bool false) := ne_self ((Sh.lst (n := 2) (mem3' (sh_ps _) (sh_ps _) (sh_ps _))).shaped (by decide))
  unfold S5 en
  simp only [x_sIf, x_eOp, x_eLst, x_aCons, x_aNil, x_eProp, x_eVar, x_eBinM, x_eUnM, x_eCall, List.getElem?_cons_zero, List.getElem?_cons_succ, R.bind_ok, I.v.mins, if_true, pv, x_noEr1, rs, L5.mins, p5, V5.mins, iv, L6.mins, p6, asDs_cons, asDs_nil, Option.map_some, ofO_some,
    lmoved_spec ps hp.len t, lturned_spec ps hp.len, view_d, Option.bind_some, n, RS.test_ok, Bool.false_eq_true, if_false, x_sNil]
theorem range_len (n : Nat) : rangeD 0 (n : Int) = (List.range n).map fun k : Nat => PyData.int (k : Int) := by
  unfold rangeD
  rw [show ((n : Int) - 0).toNat = n by omega]
  refine List.map_congr_left fun k _ => ?_
  rw [Int.zero_add]
theorem getD_all (l : List D) : ((List.range l.length).map fun k : Nat => l.getD k .none) = l := by
  refine List.ext_getElem (by simp) fun i h1 h2 => ?_
  simp at h1
  simp [h1]
theorem s6_lc (I : InvS μ kd k5 k6 ps qs) : lcL (tName 9) eYes (eBinM "Change" g_Change____getitem__ (eVar 5) (eVar 9)) [x0, c, some (.m kd), some (.d (.tuple (ps.map Pc.d))), some (.d (.tuple (qs.map Pc.d))), some (.m k5), some (.m k6), some (.d (.int t)), wo, none, du, lo, al, a, b, f] (rangeD 0 (ps.length : Int)) [] μ = .ok (.d (.list (ps.map Pc.d))) μ := by
  rw [range_len, lc_mapT (fun k : Nat => PyData.int (k : Int)) (fun k : Nat => (ps.map Pc.d).getD k .none) (List.range ps.length) [] fun k hk => ⟨_, rfl, rfl, ?_⟩]
  · have hx := getD_all (ps.map Pc.d)
    rw [List.length_map] at hx
    rw [List.nil_append, hx]
  · have hk := List.mem_range.mp hk
    have g := getitem_spec I.v (.int (k : Int))
    have g : g_Change____getitem__ [.m k5, .d (.int (k : Int))] μ = if 0 ≤ (k : Int) ∧ (k : Int) < (ps.map Pc.d).length then .ok (.d ((ps.map Pc.d).getD (k : Int).toNat .none)) μ else .er ⟨"InvalidIndex", none⟩ μ := g
    rw [if_pos (by rw [List.length_map]; omega)] at g
    rw [show ((k : Int)).toNat = k by omega] at g
    simp only [x_eBinM, x_eVar, List.set_cons_succ, List.set_cons_zero, List.getElem?_cons_zero, List.getElem?_cons_succ, R.bind_ok, I.v.mins, if_true, g]
theorem s6 (I : InvS μ kd k5 k6 ps qs) (hp : Sm ps) : S6 (en kd k5 k6 ps qs t x0 c wo at_ du lo al a b f) μ = .nx (en kd k5 k6 ps qs t x0 c wo at_ du lo al a b f) μ := by
  have h3 := hp.three
  have h10 : (ps.length : Int) ≤ 10 := by omega
  have h6 : 0 ≤ (ps.length : Int) ∧ (ps.length : Int) < 1000000 := by omega
  have hl : -(LIM : Int) ≤ (ps.length : Int) ∧ (ps.length : Int) ≤ LIM := ⟨Int.le_trans (show -(LIM : Int) ≤ 0 by decide) h6.1, Int.le_trans h10 (show (10 : Int) ≤ LIM by decide)⟩
  have lc := s6_lc (t := t) (x0 := x0) (c := c) (wo := wo) (du := du) (lo := lo) (al := al) (a := a) (b := b) (f := f) I
  have n1 : dNe (.list (ps.map Pc.d)) (.list (ps.map Pc.d)) = some (.bool false) := ne_self ((Sh.lst (n := 1) fun x hx => by obtain ⟨p, _, rfl⟩ := List.mem_map.mp hx; exact sh_pc p).shaped (by decide))
  have ls := len_spec I.v
  rw [List.length_map] at ls
  have n2 : dNe (.int (ps.length : Int)) (.int (ps.length : Int)) = some (.bool false) := by rw [dNeI]; simp
  have e1 : (eOp dNe (eLc [9] (tName 9) (iRange1 (eBlt bLen (aCons (eVar 3) aNil))) eYes (eBinM "Change" g_Change____getitem__ (eVar 5) (eVar 9))) (eBlt bLst (aCons (eVar 3) aNil))) (en kd k5 k6 ps qs t x0 c wo at_ du lo al a b f) μ = .ok (.d (.bool false)) μ := by
    have r : (iRange1 (eBlt bLen (aCons (eVar 3) aNil))) (en kd k5 k6 ps qs t x0 c wo at_ du lo al a b f) μ = .ok (rangeD 0 (ps.length : Int)) μ := by
      unfold en
      simp only [x_iRange1, x_eBlt, x_aCons, x_aNil, x_eVar, List.getElem?_cons_zero, List.getElem?_cons_succ, R.bind_ok, views, view_d, Option.bind_some, Option.map_some, bLen, List.length_map, ofO_some]
      exact if_pos hl
    rw [x_eOp, x_eLc, r, R.bind_ok]
    unfold en
    simp only [wipeE, List.set_cons_succ, List.set_cons_zero, lc, x_eBlt, x_aCons, x_aNil, x_eVar, List.getElem?_cons_zero, List.getElem?_cons_succ, R.bind_ok, views, view_d, Option.bind_some, Option.map_some, bLst, ofO_some, n1]
  have e2 : (eOp dNe (eLenM "Change" g_Change____len__ (eVar 5)) (eBlt bLen (aCons (eVar 3) aNil))) (en kd k5 k6 ps qs t x0 c wo at_ du lo al a b f) μ = .ok (.d (.bool false)) μ := by
    have r : (eLenM "Change" g_Change____len__ (eVar 5)) (en kd k5 k6 ps qs t x0 c wo at_ du lo al a b f) μ = .ok (.d (.int (ps.length : Int))) μ := by
      rw [x_eLenM, show (eVar 5) (en kd k5 k6 ps qs t x0 c wo at_ du lo al a b f) μ = .ok (.m k5) μ from rfl, R.bind_ok]
      dsimp only
      rw [I.v.mins]
      dsimp only
      rw [if_pos rfl, ls, R.bind_ok]
      exact if_pos h6
    rw [x_eOp, r, R.bind_ok]
    unfold en
    simp only [x_eBlt, x_aCons, x_aNil, x_eVar, List.getElem?_cons_zero, List.getElem?_cons_succ, R.bind_ok, views, view_d, Option.bind_some, Option.map_some, bLen, List.length_map, ofO_some, n2]
  have st : S6 = sIf (eOr (eOp dNe (eLc [9] (tName 9) (iRange1 (eBlt bLen (aCons (eVar 3) aNil))) eYes (eBinM "Change" g_Change____getitem__ (eVar 5) (eVar 9))) (eBlt bLst (aCons (eVar 3) aNil))) (eOp dNe (eLenM "Change" g_Change____len__ (eVar 5)) (eBlt bLen (aCons (eVar 3) aNil)))) (sRet (eBl false)) sNil := rfl
  rw [st, x_sIf, x_eOr, e1]
  simp only [R.test_ok, Bool.false_eq_true, if_false, e2, RS.test_ok, x_sNil]
def B7 : SF := (sIf (eOr (eOp dNe (eCalM "Change" g_Change____call__ (eVar 5) (aCons (eVar 8) aNil)) (eCall g__law_changed (aCons (eVar 3) (aCons (eVar 8) aNil)))) (eOp dNe (eInM "Change" g_Change____contains__ false (eVar 8) (eVar 5)) (eNotN (eCall g__law_piece (aCons (eVar 3) (aCons (eVar 8) aNil)))))) (sRet (eBl false)) sNil)
theorem bb_ne (b : Bool) : dNe (.bool b) (.bool b) = some (.bool false) := by cases b <;> rfl
theorem b7 (I : InvS μ kd k5 k6 ps qs) {w : Int} (h1 : -far ≤ w) (h2 : w ≤ far) : B7 (en kd k5 k6 ps qs t x0 c (some (.d (.int w))) at_ du lo al a b f) μ = .nx (en kd k5 k6 ps qs t x0 c (some (.d (.int w))) at_ du lo al a b f) μ := by
  have cs := call_spec I.v (.int w)
  have cs : g_Change____call__ [.m k5, .d (.int w)] μ = if -far ≤ w ∧ w ≤ far then .ok (.d (.int (changedI ps w))) μ else .er ⟨"InvalidWorth", none⟩ μ := cs
  rw [if_pos ⟨h1, h2⟩] at cs
  have ct := contains_spec I.v (.int w)
  have ct : g_Change____contains__ [.m k5, .d (.int w)] μ = .ok (.d (.bool (pieceOf ps w).isSome)) μ := ct
  have n1 : dNe (.int (changedI ps w)) (.int (changedI ps w)) = some (.bool false) := by rw [dNeI]; simp
  have e2 : (!isNonW (W.d (pD (pieceOf ps w)))) = (pieceOf ps w).isSome := by rw [isNonW_p]; cases pieceOf ps w <;> rfl
  unfold B7 en
  simp only [x_sIf, x_eOr, x_eOp, x_eCalM, x_eCall, x_aCons, x_aNil, x_eVar, List.getElem?_cons_zero, List.getElem?_cons_succ, R.bind_ok, I.v.mins, if_true, cs, lchanged_spec, view_d, Option.bind_some, n1, Option.map_some, ofO_some, R.test_ok, Bool.false_eq_true, if_false, x_eInM, ct, x_eNotN, lpiece_of_spec, e2, bb_ne, RS.test_ok, x_sNil]
theorem l7 (I : InvS μ kd k5 k6 ps qs) : ∀ (l : List Int) (wo : Option W), (∀ w ∈ l, -far ≤ w ∧ w ≤ far) → ∃ wo', forL (tName 8) B7 (l.map .int) (en kd k5 k6 ps qs t x0 c wo at_ du lo al a b f) μ = .nx (en kd k5 k6 ps qs t x0 c wo' at_ du lo al a b f) μ
  | [], wo, _ => ⟨wo, rfl⟩
  | w :: l, wo, h => by
    obtain ⟨wo', e⟩ := l7 I l (some (.d (.int w))) fun v hv => h v (List.mem_cons_of_mem _ hv)
    refine ⟨wo', ?_⟩
    have one := b7 (t := t) (x0 := x0) (c := c) (at_ := at_) (du := du) (lo := lo) (al := al) (a := a) (b := b) (f := f) I (h w List.mem_cons_self).1 (h w List.mem_cons_self).2
    have st : forL (tName 8) B7 ((w :: l).map .int) (en kd k5 k6 ps qs t x0 c wo at_ du lo al a b f) μ = (match B7 (en kd k5 k6 ps qs t x0 c (some (.d (.int w))) at_ du lo al a b f) μ with
      | .nx ρ2 μ2 => forL (tName 8) B7 (l.map .int) ρ2 μ2
      | .ct ρ2 μ2 => forL (tName 8) B7 (l.map .int) ρ2 μ2
      | .bk ρ2 μ2 => .nx ρ2 μ2
      | .rt w μ2 => .rt w μ2
      | .er x μ2 => .er x μ2
      | .no => .no) := rfl
    rw [st, one]
    exact e
theorem s7 (I : InvS μ kd k5 k6 ps qs) : ∃ wo', S7 (en kd k5 k6 ps qs t x0 c wo at_ du lo al a b f) μ = .nx (en kd k5 k6 ps qs t x0 c wo' at_ du lo al a b f) μ := by
  have fb := far_big
  obtain ⟨wo', e⟩ := l7 (t := t) (x0 := x0) (c := c) (at_ := at_) (du := du) (lo := lo) (al := al) (a := a) (b := b) (f := f) I (rg (-30) 60) wo fun w hw => by
    have := mem_rg.mp hw
    omega
  refine ⟨wo', ?_⟩
  have hr : rangeD (-30) 60 = (rg (-30) 60).map .int := rangeD_rg _ _
  have hl : -(LIM : Int) ≤ -30 ∧ (-30 : Int) ≤ LIM ∧ -(LIM : Int) ≤ 60 ∧ (60 : Int) ≤ LIM := by decide
  have st : S7 = sFor (tName 8) (iRange2 (eUn dNeg (eInt 30)) (eInt 60)) B7 := rfl
  rw [st]
  simp only [x_sFor, x_iRange2, x_eUn, x_eInt, R.bind_ok, view_d, Option.bind_some, x_negI, Option.map_some, ofO_some, hl, and_self, if_true, R.bindS_ok, hr, e]
theorem s8 (I : InvS μ kd k5 k6 ps qs) (hp : Sm ps) : S8 (en kd k5 k6 ps qs t x0 c wo at_ du lo al a b f) μ = .nx (en kd k5 k6 ps qs t x0 c wo at_ du lo al a b f) μ := by
  obtain ⟨b1, e1, h1⟩ := bool_spec I.v hp.len
  obtain ⟨b2, e2, h2⟩ := lsettles_spec ps μ
  have hb : b1 = b2 := by
    have := settles_iff hp
    cases b1 <;> cases b2 <;> simp_all
  subst hb
  have c1 := contains_spec I.v .none
  have c2 := contains_spec I.v (.str "0")
  have c3 := contains_spec I.v (.bool true)
  have c1 : g_Change____contains__ [.m k5, .d .none] μ = .ok (.d (.bool false)) μ := c1
  have c2 : g_Change____contains__ [.m k5, .d (.str "0")] μ = .ok (.d (.bool false)) μ := c2
  have c3 : g_Change____contains__ [.m k5, .d (.bool true)] μ = .ok (.d (.bool false)) μ := c3
  have i0 : ∃ p, dIx (.tuple (ps.map Pc.d)) (.int 0) = some (Pc.d p) := by
    have h1 := hp.ch.one
    cases ps with
    | nil => exact absurd h1 (by decide)
    | cons p r => exact ⟨p, ix4_0 _ _⟩
  obtain ⟨p, i0⟩ := i0
  have c4 := contains_spec I.v p.d
  have c4 : g_Change____contains__ [.m k5, .d p.d] μ = .ok (.d (.bool false)) μ := c4
  unfold S8 en
  simp only [x_sIf, x_eOr, x_eOp, x_eTruM, x_eCall, x_aCons, x_aNil, x_eVar, x_eNon, x_eStr, x_eBl, x_eInt, List.getElem?_cons_zero, List.getElem?_cons_succ, R.bind_ok, I.v.mins, if_true, e1, e2, view_d, Option.bind_some, bb_ne, Option.map_some, ofO_some, R.test_ok, Bool.false_eq_true, if_false, x_eInM, c1, c2, c3, i0, c4, RS.test_ok, x_sNil]
end
end Pure

set_option linter.all false
set_option Elab.async false
set_option maxRecDepth 100000
set_option maxHeartbeats 4000000
/-! The plain law of changes as values: the later steps of one cell. -/
namespace Pure
open PySem Mi Mir
theorem cutL_to {α : Type} (l : List α) (n : Nat) : cutL l none (some (n : Int)) = l.take n := by
  have h1 : ¬ (n : Int) < 0 := by omega
  have h2 : ((n : Int)).toNat = n := by omega
  simp only [cutL, six, h1, if_false, h2, Nat.sub_zero, List.drop_zero]
  by_cases h : n ≤ l.length
  · rw [Nat.min_eq_left h]
  · rw [Nat.min_eq_right (by omega), List.take_of_length_le (Nat.le_refl _), List.take_of_length_le (by omega)]
theorem ne_nilT {l : List D} (h : SeqAt.shaped (.tuple l) = true) : dNe (.tuple l) (.tuple []) = some (.bool (!l.isEmpty)) := by
  rw [dNeD h rfl]
  cases l <;> rfl
theorem eq_nilL {l : List D} (h : SeqAt.shaped (.list l) = true) : dEq (.list l) (.list []) = some (.bool l.isEmpty) := by
  rw [dEqD h rfl]
  cases l <;> rfl
section
variable {μ : Sto} {kd k5 k6 : Nat} {ps qs : List Pc} {t : Int} {x0 c wo at_ du lo al a b f : Option W}
def B9 : SF := (sSeq (sAsg 10 (eOp dAdd (eSl dCut (eVar 3) none (some (eVar 9))) (eSl dCut (eVar 3) (some (eOp dAdd (eVar 9) (eInt 1))) none)))
    (sIf (eOp dNe (eOut "Change" g_Change__pieces (nmC clsL) (eBinM "Change" g_Change____sub__ (eVar 5) (eVar 9))) (eIf (eOp dNe (eVar 10) (eTup aNil)) (eVar 10) (eStr "change value"))) (sRet (eBl false)) sNil))
theorem b9 (I : InvS μ kd k5 k6 ps qs) (hp : Sm ps) {k : Nat} (hk : k < ps.length) : ∃ du' ν, B9 (en kd k5 k6 ps qs t x0 c wo (some (.d (.int (k : Int)))) du lo al a b f) μ = .nx (en kd k5 k6 ps qs t x0 c wo (some (.d (.int (k : Int)))) du' lo al a b f) (μ ++ ν) := by
  have h3 := hp.three
  have lim : (100 : Nat) ≤ LIM := by decide
  have c1 : dCut (.tuple (ps.map Pc.d)) none (some (k : Int)) = some (.tuple ((ps.take k).map Pc.d)) := by
    show some (PyData.tuple _) = _
    rw [cutL_to, List.map_take]
  have c2 : dCut (.tuple (ps.map Pc.d)) (some ((k : Int) + 1)) none = some (.tuple ((ps.drop (k + 1)).map Pc.d)) := by
    show some (PyData.tuple _) = _
    rw [show (k : Int) + 1 = ((k + 1 : Nat) : Int) by omega, cutL_from, List.map_drop]
  have d1 : dAdd (.tuple ((ps.take k).map Pc.d)) (.tuple ((ps.drop (k + 1)).map Pc.d)) = some (.tuple ((ps.take k ++ ps.drop (k + 1)).map Pc.d)) := by
    show (if _ then _ else _) = _
    rw [if_pos (by simp only [List.length_map, List.length_take, List.length_drop]; omega), ← List.map_append]
  have sb := sub_spec I.v (by rw [List.length_map]; omega) (sh_psd ps) (.int (k : Int))
  have sb : g_Change____sub__ [.m k5, .d (.int (k : Int))] μ = if 0 ≤ (k : Int) ∧ (k : Int) < (ps.map Pc.d).length then g_value_of [.d (.tuple ((ps.map Pc.d).take (k : Int).toNat ++ (ps.map Pc.d).drop ((k : Int).toNat + 1)))] μ else .er ⟨"InvalidIndex", none⟩ μ := sb
  rw [if_pos (by rw [List.length_map]; omega), show ((k : Int)).toNat = k by omega, ← List.map_take, ← List.map_drop, ← List.map_append, value_of_spec _ (sh_psd _)] at sb
  by_cases h2 : 2 ≤ ps.length
  · have hch := less_ch hp hk h2
    rw [if_pos (fitsCh_ok hch)] at sb
    generalize hr : ps.take k ++ ps.drop (k + 1) = rs at sb d1 hch
    have L := VAt.last μ (.tuple (rs.map Pc.d))
    have pc := pieces_spec L
    have n1 : dNe (.tuple (rs.map Pc.d)) (.tuple []) = some (.bool true) := by
      rw [ne_nilT (sh_psd rs)]
      have := hch.one
      cases rs with
      | nil => exact absurd this (by decide)
      | cons x y => rfl
    have n2 := ne_self (sh_psd rs)
    refine ⟨some (.d (.tuple (rs.map Pc.d))), [vob (.tuple (rs.map Pc.d))], ?_⟩
    unfold B9 en
    simp only [x_sSeq, x_sAsg, x_eOp, x_eSl, x_eVar, x_eInt, x_part0, x_part1, List.getElem?_cons_zero, List.getElem?_cons_succ, R.bind_ok, view_d, Option.bind_some, x_addI, Option.map_some, ofO_some, c1, c2, d1, R.bindS_ok, List.set_cons_succ, List.set_cons_zero,
      x_sIf, x_eOut, x_eBinM, I.v.mins, if_true, sb, L.mins, pc, x_noEr1, x_eIf, x_eTup, x_aNil, asDs_nil, n1, R.test_ok, n2, RS.test_ok, Bool.false_eq_true, if_false, x_sNil]
  · have h1 := hp.ch.one
    have hk0 : k = 0 := by omega
    have hr : ps.take k ++ ps.drop (k + 1) = [] := by
      rw [hk0]
      exact List.drop_of_length_le (by omega)
    rw [hr] at sb d1
    rw [if_neg (by decide)] at sb
    have n1 : dNe (.tuple (([] : List Pc).map Pc.d)) (.tuple []) = some (.bool false) := rfl
    have n2 := ne_self sh_cv
    refine ⟨some (.d (.tuple (([] : List Pc).map Pc.d))), [], ?_⟩
    rw [List.append_nil]
    unfold B9 en
    simp only [x_sSeq, x_sAsg, x_eOp, x_eSl, x_eVar, x_eInt, x_part0, x_part1, List.getElem?_cons_zero, List.getElem?_cons_succ, R.bind_ok, view_d, Option.bind_some, x_addI, Option.map_some, ofO_some, c1, c2, d1, R.bindS_ok, List.set_cons_succ, List.set_cons_zero,
      x_sIf, x_eOut, x_eBinM, I.v.mins, if_true, sb, nm_change, x_eIf, x_eTup, x_aNil, asDs_nil, n1, R.test_ok, x_eStr, n2, RS.test_ok, Bool.false_eq_true, if_false, x_sNil]
theorem l9 (hp : Sm ps) : ∀ (l : List Nat) (μ : Sto) (at_ du : Option W), InvS μ kd k5 k6 ps qs → (∀ k ∈ l, k < ps.length) → ∃ at' du' ν, forL (tName 9) B9 (l.map fun k : Nat => PyData.int (k : Int)) (en kd k5 k6 ps qs t x0 c wo at_ du lo al a b f) μ = .nx (en kd k5 k6 ps qs t x0 c wo at' du' lo al a b f) (μ ++ ν)
  | [], μ, at_, du, _, _ => ⟨at_, du, [], by simp [forL]⟩
  | k :: l, μ, at_, du, I, h => by
    obtain ⟨du1, ν1, e1⟩ := b9 (t := t) (x0 := x0) (c := c) (wo := wo) (du := du) (lo := lo) (al := al) (a := a) (b := b) (f := f) I hp (h k List.mem_cons_self)
    obtain ⟨at', du', ν, e⟩ := l9 hp l (μ ++ ν1) (some (.d (.int (k : Int)))) du1 (I.app ν1) fun v hv => h v (List.mem_cons_of_mem _ hv)
    refine ⟨at', du', ν1 ++ ν, ?_⟩
    have st : forL (tName 9) B9 ((k :: l).map fun k : Nat => PyData.int (k : Int)) (en kd k5 k6 ps qs t x0 c wo at_ du lo al a b f) μ = (match B9 (en kd k5 k6 ps qs t x0 c wo (some (.d (.int (k : Int)))) du lo al a b f) μ with
      | .nx ρ2 μ2 => forL (tName 9) B9 (l.map fun k : Nat => PyData.int (k : Int)) ρ2 μ2
      | .ct ρ2 μ2 => forL (tName 9) B9 (l.map fun k : Nat => PyData.int (k : Int)) ρ2 μ2
      | .bk ρ2 μ2 => .nx ρ2 μ2
      | .rt w μ2 => .rt w μ2
      | .er x μ2 => .er x μ2
      | .no => .no) := rfl
    rw [st, e1]
    dsimp only
    rw [e, List.append_assoc]
theorem r9 (hp : Sm ps) : (iRange1 (eBlt bLen (aCons (eVar 3) aNil))) (en kd k5 k6 ps qs t x0 c wo at_ du lo al a b f) μ = .ok ((List.range ps.length).map fun k : Nat => PyData.int (k : Int)) μ := by
  have h3 := hp.three
  have h10 : (ps.length : Int) ≤ 10 := by omega
  have h6 : 0 ≤ (ps.length : Int) := by omega
  have hl : -(LIM : Int) ≤ (ps.length : Int) ∧ (ps.length : Int) ≤ LIM := ⟨Int.le_trans (show -(LIM : Int) ≤ 0 by decide) h6, Int.le_trans h10 (show (10 : Int) ≤ LIM by decide)⟩
  rw [← range_len]
  unfold en
  simp only [x_iRange1, x_eBlt, x_aCons, x_aNil, x_eVar, List.getElem?_cons_zero, List.getElem?_cons_succ, R.bind_ok, views, view_d, Option.bind_some, Option.map_some, bLen, List.length_map, ofO_some]
  exact if_pos hl
theorem s9 (I : InvS μ kd k5 k6 ps qs) (hp : Sm ps) : ∃ at' du' ν, S9 (en kd k5 k6 ps qs t x0 c wo at_ du lo al a b f) μ = .nx (en kd k5 k6 ps qs t x0 c wo at' du' lo al a b f) (μ ++ ν) := by
  obtain ⟨at', du', ν, e⟩ := l9 (t := t) (x0 := x0) (c := c) (wo := wo) (lo := lo) (al := al) (a := a) (b := b) (f := f) hp (List.range ps.length) μ at_ du I fun k hk => List.mem_range.mp hk
  refine ⟨at', du', ν, ?_⟩
  have st : S9 = sFor (tName 9) (iRange1 (eBlt bLen (aCons (eVar 3) aNil))) B9 := rfl
  rw [st, x_sFor, r9 hp, R.bindS_ok]
  exact e
theorem s10 (I : InvS μ kd k5 k6 ps qs) : ∃ r μ', 0 ≤ r ∧ r < 90 ∧ InvS μ' kd k5 k6 ps qs ∧ S10 (en kd k5 k6 ps qs t x0 c wo at_ du lo al a b f) μ = .nx (en kd k5 k6 ps qs t x0 c wo at_ du (some (.d (.int (-30 + r)))) al a b f) μ' := by
  obtain ⟨r, μ', h1, h2, hr, e⟩ := roll_spec (many := 90) I.dr (by decide) (by decide)
  refine ⟨r, μ', h1, h2, I.roll hr, ?_⟩
  unfold S10 en
  simp only [x_sAsg, x_eOp, x_eUn, x_eInt, x_eCall, x_aCons, x_aNil, x_eVar, List.getElem?_cons_zero, List.getElem?_cons_succ, R.bind_ok, view_d, Option.bind_some, x_negI, Option.map_some, ofO_some, e, x_addI, R.bindS_ok, List.set_cons_succ, List.set_cons_zero]
theorem s11 (I : InvS μ kd k5 k6 ps qs) (hp : Sm ps) {low : Int} (l1 : -30 ≤ low) (l2 : low < 60) : ∃ μ', InvS μ' kd k5 k6 ps qs ∧ S11 (en kd k5 k6 ps qs t x0 c wo at_ du (some (.d (.int low))) al a b f) μ = .nx (en kd k5 k6 ps qs t x0 c wo at_ du (some (.d (.int low))) al a b f) μ' := by
  have fb := far_big
  obtain ⟨r, μ', h1, h2, hr, e⟩ := roll_spec (many := 9) I.dr (by decide) (by decide)
  have I2 := I.roll hr
  refine ⟨μ', I2, ?_⟩
  have hq : PcOk ⟨some low, some (low + r), true, 3⟩ := ⟨fun i e => by cases e; omega, fun i e => by cases e; omega, fun i j e1 e2 => by cases e1; cases e2; omega, by show -far ≤ 3; omega, by show 3 ≤ far; omega, fun e => by cases e⟩
  have m := more_right hp hq rfl rfl μ'
  have m : g__law_more_right [.d (.tuple (ps.map Pc.d)), .d (.tuple [.int low, .int (low + r), .str "set", .int 3])] μ' = .ok (.d (.bool true)) μ' := m
  have bd := bad_right hp I2.v
  unfold S11 en
  simp only [x_sIf, x_eOr, x_eNot, x_eCall, x_aCons, x_aNil, x_eTup, x_eOp, x_eInt, x_eStr, x_eVar, List.getElem?_cons_zero, List.getElem?_cons_succ, R.bind_ok, e, view_d, Option.bind_some, x_addI, Option.map_some, ofO_some, asDs_cons, asDs_nil, m, R.test_ok, Bool.not_true, Bool.false_eq_true, if_false, bd, RS.test_ok, x_sNil]
def dif (ps qs : List Pc) : List Int := (rg (-90) 120).filter fun w => !(changedI ps w == changedI qs w)
theorem dif_nil {ps qs : List Pc} (hp : Sm ps) (hq : Sm qs) : (dif ps qs).isEmpty = true ↔ Same2 ps qs := by
  rw [same_small hp hq, List.isEmpty_iff]
  unfold dif
  rw [List.filter_eq_nil_iff]
  constructor
  · intro h w h1 h2
    have := h w (mem_rg.mpr ⟨h1, h2⟩)
    simpa using this
  · intro h w hw
    obtain ⟨h1, h2⟩ := mem_rg.mp hw
    simp [h w h1 h2]
theorem s12 : S12 (en kd k5 k6 ps qs t x0 c wo at_ du lo al a b f) μ = .nx (en kd k5 k6 ps qs t x0 c wo at_ du lo (some (.d (.bool (dif ps qs).isEmpty))) a b f) μ := by
  have hr : rangeD (-90) 120 = (rg (-90) 120).map .int := rangeD_rg _ _
  have hl : -(LIM : Int) ≤ -90 ∧ (-90 : Int) ≤ LIM ∧ -(LIM : Int) ≤ 120 ∧ (120 : Int) ≤ LIM := by decide
  have lc : lcL (tName 8) (eOp dNe (eCall g__law_changed (aCons (eVar 3) (aCons (eVar 8) aNil))) (eCall g__law_changed (aCons (eVar 4) (aCons (eVar 8) aNil)))) (eVar 8) [x0, c, some (.m kd), some (.d (.tuple (ps.map Pc.d))), some (.d (.tuple (qs.map Pc.d))), some (.m k5), some (.m k6), some (.d (.int t)), none, at_, du, lo, al, a, b, f] ((rg (-90) 120).map .int) [] μ = .ok (.d (.list ((dif ps qs).map .int))) μ := by
    rw [lc_filterT PyData.int PyData.int (fun w => !(changedI ps w == changedI qs w)) (rg (-90) 120) [] fun w hw => ⟨_, rfl, ?_, fun _ => rfl⟩]
    · rfl
    · simp only [x_eOp, x_eCall, x_aCons, x_aNil, x_eVar, List.set_cons_succ, List.set_cons_zero, List.getElem?_cons_zero, List.getElem?_cons_succ, R.bind_ok, lchanged_spec, view_d, Option.bind_some, dNeI, Option.map_some, ofO_some]
  have eq : dEq (.list ((dif ps qs).map .int)) (.list []) = some (.bool (dif ps qs).isEmpty) := by
    rw [eq_nilL ((Sh.lst (n := 0) fun x hx => by obtain ⟨i, _, rfl⟩ := List.mem_map.mp hx; exact sh_int i).shaped (by decide))]
    cases dif ps qs <;> rfl
  unfold S12 en
  simp only [x_sAsg, x_eOp, x_eLc, x_iRange2, x_eUn, x_eInt, R.bind_ok, view_d, Option.bind_some, x_negI, Option.map_some, ofO_some, hl, and_self, if_true, hr, wipeE, List.set_cons_succ, List.set_cons_zero, lc, x_eLst, x_aNil, asDs_nil, eq, R.bindS_ok]
theorem eqv_self (ps : List Pc) : PyData.eqv (.tuple (ps.map Pc.d)) (.tuple (ps.map Pc.d)) = true := SeqAt.eqv_refl _ (shaped_iff.mp (sh_psd ps)).1
theorem s13 (I : InvS μ kd k5 k6 ps qs) (hp : Sm ps) (hq : Sm qs) : ∃ ν, S13 (en kd k5 k6 ps qs t x0 c wo at_ du lo (some (.d (.bool (dif ps qs).isEmpty))) a b f) μ = .nx (en kd k5 k6 ps qs t x0 c wo at_ du lo (some (.d (.bool (dif ps qs).isEmpty))) a b f) (μ ++ ν) := by
  obtain ⟨b1, e1, h1⟩ := like_spec I.v I.w hp.sep hq.sep hp.len hq.len
  have hb : b1 = (dif ps qs).isEmpty := by
    have := dif_nil hp hq
    generalize (dif ps qs).isEmpty = z at this
    cases b1 <;> cases z <;> simp_all
  subst hb
  have eqs := eq_spec I.v I.w (sh_psd ps) (sh_psd qs)
  have eqd := dEqD (sh_psd ps) (sh_psd qs)
  have lv := lvalue_spec hp μ
  have L := VAt.last μ (.tuple (ps.map Pc.d))
  obtain ⟨b2, e2, h2⟩ := like_spec (I.v.app [vob (.tuple (ps.map Pc.d))]) L hp.sep hp.sep hp.len hp.len
  have hb2 : b2 = true := h2.mpr fun _ _ _ => rfl
  subst hb2
  refine ⟨[vob (.tuple (ps.map Pc.d))], ?_⟩
  unfold S13 en
  simp only [x_sIf, x_eOr, x_eNot, x_eOp, x_eMeth, x_eEqM, x_eCall, x_aCons, x_aNil, x_eVar, List.getElem?_cons_zero, List.getElem?_cons_succ, R.bind_ok, I.v.mins, I.w.mins, lk_like, and_self, if_true, e1, view_d, Option.bind_some, bb_ne, Option.map_some, ofO_some, R.test_ok, Bool.false_eq_true, if_false,
    eqs, eqd, lv, e2, Bool.not_true, RS.test_ok, x_sNil]
theorem s14 (I : InvS μ kd k5 k6 ps qs) (hp : Sm ps) : ∃ ν, S14 (en kd k5 k6 ps qs t x0 c wo at_ du lo al a b f) μ = .nx (en kd k5 k6 ps qs t x0 c wo at_ du lo al a b f) (μ ++ ν) := by
  have lv := lvalue_spec hp μ
  have L := VAt.last μ (.tuple (ps.map Pc.d))
  have V := I.v.app [vob (.tuple (ps.map Pc.d))]
  have eqs := eq_spec L V (sh_psd ps) (sh_psd ps)
  rw [eqv_self] at eqs
  refine ⟨[vob (.tuple (ps.map Pc.d))], ?_⟩
  unfold S14 en
  simp only [x_sIf, x_eOr, x_eEqM, x_eNeM, x_eCall, x_aCons, x_aNil, x_eVar, List.getElem?_cons_zero, List.getElem?_cons_succ, R.bind_ok, I.v.mins, if_true, eqD_spec, R.test_ok, Bool.false_eq_true, if_false, lv, L.mins, V.mins, and_self, eqs, Bool.not_true, RS.test_ok, x_sNil]
end
end Pure

set_option linter.all false
set_option Elab.async false
set_option maxRecDepth 100000
set_option maxHeartbeats 4000000
/-! The plain law of changes as values. -/
namespace Pure
open PySem Mi Mir
theorem seq_nx {F G : SF} {ρ ρ1 : Mi.Env} {μ μ1 : Sto} (h : F ρ μ = .nx ρ1 μ1) : sSeq F G ρ μ = G ρ1 μ1 := by rw [x_sSeq, h]
theorem vat_ext {μ : Sto} {k : Nat} {d : D} (h : VAt μ k d) (ν : Sto) : VAt (μ ++ ν) k d := h.app ν
theorem sm_of {ps : List Pc} (h1 : ChOk ps) (h2 : ∀ p ∈ ps, PcSm 9 p) (h3 : ps.length ≤ 3) : Sm ps := ⟨h1, h2, h3⟩
/-- the steps that make the two values -/
theorem start_ok (cell : Int) (x0 x2 x3 x4 x5 x6 x7 wo at_ du lo al a b f : Option W) (μ : Sto) : ∃ kd k5 k6 ps qs t μ', Sm ps ∧ Sm qs ∧ -50 ≤ t ∧ t ≤ 50 ∧ InvS μ' kd k5 k6 ps qs ∧ ∀ G : SF,
    sSeq S1 (sSeq S2 (sSeq S3 (sSeq S4 G))) [x0, some (.d (.int cell)), x2, x3, x4, x5, x6, x7, wo, at_, du, lo, al, a, b, f] μ = G (en kd k5 k6 ps qs t x0 (some (.d (.int cell))) wo at_ du lo al a b f) μ' := by
  obtain ⟨d1, d2, h1, h2, h3, e1⟩ := drum_spec (cell := cell) (turn := 9) (μ := μ) (by decide) (by decide)
  have D1 : DrumAt (μ ++ [drum d1 d2]) μ.length := ⟨d1, d2, by simp, h1, h2, h3⟩
  obtain ⟨ps, μ2, hp, sp, lp, r2, e2⟩ := change_spec (most := 9) D1 (by decide) (by decide)
  have D2 := r2.at_ D1.lt
  obtain ⟨qs, μ3, hq, sq, lq, r3, e3⟩ := change_spec (most := 9) D2 (by decide) (by decide)
  have D3 := r3.at_ D2.lt
  have Sp := sm_of hp sp lp
  have Sq := sm_of hq sq lq
  have v1 := lvalue_spec Sp μ3
  generalize hμ4 : μ3 ++ [vob (.tuple (ps.map Pc.d))] = μ4 at v1
  have v2 := lvalue_spec Sq μ4
  have V4 : VAt μ4 μ3.length (.tuple (ps.map Pc.d)) := by rw [← hμ4]; exact VAt.last _ _
  have L4 : μ4.length = μ3.length + 1 := by rw [← hμ4]; simp
  generalize hμ5 : μ4 ++ [vob (.tuple (qs.map Pc.d))] = μ5 at v2
  have W5 : VAt μ5 μ4.length (.tuple (qs.map Pc.d)) := by rw [← hμ5]; exact VAt.last _ _
  have V5 : VAt μ5 μ3.length (.tuple (ps.map Pc.d)) := by rw [← hμ5]; exact V4.app _
  have D5 : DrumAt μ5 μ.length := by rw [← hμ5, ← hμ4]; exact (D3.app _).app _
  have lt3 : μ.length < μ3.length := D3.lt
  have I5 : InvS μ5 μ.length μ3.length μ4.length ps qs := ⟨D5, V5, W5, by omega, by omega⟩
  obtain ⟨r, μ6, hr1, hr2, r6, e6⟩ := roll_spec (many := 99) D5 (by decide) (by decide)
  refine ⟨μ.length, μ3.length, μ4.length, ps, qs, r - 50, μ6, Sp, Sq, by omega, by omega, I5.roll r6, fun G => ?_⟩
  have g1 : S1 [x0, some (.d (.int cell)), x2, x3, x4, x5, x6, x7, wo, at_, du, lo, al, a, b, f] μ = .nx [x0, some (.d (.int cell)), some (.m μ.length), x3, x4, x5, x6, x7, wo, at_, du, lo, al, a, b, f] (μ ++ [drum d1 d2]) := by
    unfold S1
    simp only [x_sAsg, x_eCall, x_aCons, x_aNil, x_eVar, x_eInt, List.getElem?_cons_zero, List.getElem?_cons_succ, R.bind_ok, e1, R.bindS_ok, List.set_cons_succ, List.set_cons_zero]
  have g2 : S2 [x0, some (.d (.int cell)), some (.m μ.length), x3, x4, x5, x6, x7, wo, at_, du, lo, al, a, b, f] (μ ++ [drum d1 d2]) = .nx [x0, some (.d (.int cell)), some (.m μ.length), some (.d (.tuple (ps.map Pc.d))), some (.d (.tuple (qs.map Pc.d))), x5, x6, x7, wo, at_, du, lo, al, a, b, f] μ3 := by
    unfold S2
    simp only [x_sPar, x_eCall, x_aCons, x_aNil, x_eVar, x_eInt, List.getElem?_cons_zero, List.getElem?_cons_succ, R.bind_ok, e2, e3, R.bindS_ok, List.set_cons_succ, List.set_cons_zero]
  have g3 : S3 [x0, some (.d (.int cell)), some (.m μ.length), some (.d (.tuple (ps.map Pc.d))), some (.d (.tuple (qs.map Pc.d))), x5, x6, x7, wo, at_, du, lo, al, a, b, f] μ3 = .nx [x0, some (.d (.int cell)), some (.m μ.length), some (.d (.tuple (ps.map Pc.d))), some (.d (.tuple (qs.map Pc.d))), some (.m μ3.length), some (.m μ4.length), x7, wo, at_, du, lo, al, a, b, f] μ5 := by
    unfold S3
    simp only [x_sPar, x_eCall, x_aCons, x_aNil, x_eVar, List.getElem?_cons_zero, List.getElem?_cons_succ, R.bind_ok, v1, v2, R.bindS_ok, List.set_cons_succ, List.set_cons_zero]
  have g4 : S4 [x0, some (.d (.int cell)), some (.m μ.length), some (.d (.tuple (ps.map Pc.d))), some (.d (.tuple (qs.map Pc.d))), some (.m μ3.length), some (.m μ4.length), x7, wo, at_, du, lo, al, a, b, f] μ5 = .nx (en μ.length μ3.length μ4.length ps qs (r - 50) x0 (some (.d (.int cell))) wo at_ du lo al a b f) μ6 := by
    unfold S4 en
    simp only [x_sAsg, x_eOp, x_eCall, x_aCons, x_aNil, x_eVar, x_eInt, List.getElem?_cons_zero, List.getElem?_cons_succ, R.bind_ok, e6, view_d, Option.bind_some, x_subI, Option.map_some, ofO_some, R.bindS_ok, List.set_cons_succ, List.set_cons_zero]
  rw [seq_nx g1, seq_nx g2, seq_nx g3, seq_nx g4]
theorem body_ok (cell : Int) (x0 x2 x3 x4 x5 x6 x7 x8 x9 x10 x11 x12 x13 x14 x15 : Option W) (μ : Sto) : ∃ y2 y3 y4 y5 y6 y7 y8 y9 y10 y11 y12 μ',
    SB [x0, some (.d (.int cell)), x2, x3, x4, x5, x6, x7, x8, x9, x10, x11, x12, x13, x14, x15] μ = .nx [x0, some (.d (.int cell)), y2, y3, y4, y5, y6, y7, y8, y9, y10, y11, y12, x13, x14, x15] μ' := by
  obtain ⟨kd, k5, k6, ps, qs, t, μ1, Sp, Sq, t1, t2, I1, e⟩ := start_ok cell x0 x2 x3 x4 x5 x6 x7 x8 x9 x10 x11 x12 x13 x14 x15 μ
  obtain ⟨ν5, e5⟩ := s5 (x0 := x0) (c := some (.d (.int cell))) (wo := x8) (at_ := x9) (du := x10) (lo := x11) (al := x12) (a := x13) (b := x14) (f := x15) I1 Sp t1 t2
  have I5 := I1.app ν5
  have e6 := s6 (t := t) (x0 := x0) (c := some (.d (.int cell))) (wo := x8) (at_ := x9) (du := x10) (lo := x11) (al := x12) (a := x13) (b := x14) (f := x15) I5 Sp
  obtain ⟨z8, e7⟩ := s7 (t := t) (x0 := x0) (c := some (.d (.int cell))) (wo := x8) (at_ := x9) (du := x10) (lo := x11) (al := x12) (a := x13) (b := x14) (f := x15) I5
  have e8 := s8 (t := t) (x0 := x0) (c := some (.d (.int cell))) (wo := z8) (at_ := x9) (du := x10) (lo := x11) (al := x12) (a := x13) (b := x14) (f := x15) I5 Sp
  obtain ⟨z9, z10, ν9, e9⟩ := s9 (t := t) (x0 := x0) (c := some (.d (.int cell))) (wo := z8) (at_ := x9) (du := x10) (lo := x11) (al := x12) (a := x13) (b := x14) (f := x15) I5 Sp
  have I9 := I5.app ν9
  obtain ⟨r, μ10, r1, r2, I10, e10⟩ := s10 (t := t) (x0 := x0) (c := some (.d (.int cell))) (wo := z8) (at_ := z9) (du := z10) (lo := x11) (al := x12) (a := x13) (b := x14) (f := x15) I9
  obtain ⟨μ11, I11, e11⟩ := s11 (t := t) (x0 := x0) (c := some (.d (.int cell))) (wo := z8) (at_ := z9) (du := z10) (al := x12) (a := x13) (b := x14) (f := x15) I10 Sp (low := -30 + r) (by omega) (by omega)
  have e12 := s12 (μ := μ11) (kd := kd) (k5 := k5) (k6 := k6) (ps := ps) (qs := qs) (t := t) (x0 := x0) (c := some (.d (.int cell))) (wo := z8) (at_ := z9) (du := z10) (lo := some (.d (.int (-30 + r)))) (al := x12) (a := x13) (b := x14) (f := x15)
  obtain ⟨ν13, e13⟩ := s13 (t := t) (x0 := x0) (c := some (.d (.int cell))) (wo := z8) (at_ := z9) (du := z10) (lo := some (.d (.int (-30 + r)))) (a := x13) (b := x14) (f := x15) I11 Sp Sq
  have I13 := I11.app ν13
  obtain ⟨ν14, e14⟩ := s14 (t := t) (x0 := x0) (c := some (.d (.int cell))) (wo := z8) (at_ := z9) (du := z10) (lo := some (.d (.int (-30 + r)))) (al := some (.d (.bool (dif ps qs).isEmpty))) (a := x13) (b := x14) (f := x15) I13 Sp
  refine ⟨some (.m kd), some (.d (.tuple (ps.map Pc.d))), some (.d (.tuple (qs.map Pc.d))), some (.m k5), some (.m k6), some (.d (.int t)), z8, z9, z10, some (.d (.int (-30 + r))), some (.d (.bool (dif ps qs).isEmpty)), μ11 ++ ν13 ++ ν14, ?_⟩
  · unfold SB
    rw [e, seq_nx e5, seq_nx e6, seq_nx e7, seq_nx e8, seq_nx e9, seq_nx e10, seq_nx e11, seq_nx e12, seq_nx e13, e14]
    rfl
theorem cells_ok (x0 x13 x14 x15 : Option W) : ∀ (l : List Int) (x1 x2 x3 x4 x5 x6 x7 x8 x9 x10 x11 x12 : Option W) (μ : Sto), ∃ y1 y2 y3 y4 y5 y6 y7 y8 y9 y10 y11 y12 μ',
    forL (tName 1) SB (l.map .int) [x0, x1, x2, x3, x4, x5, x6, x7, x8, x9, x10, x11, x12, x13, x14, x15] μ = .nx [x0, y1, y2, y3, y4, y5, y6, y7, y8, y9, y10, y11, y12, x13, x14, x15] μ'
  | [], x1, x2, x3, x4, x5, x6, x7, x8, x9, x10, x11, x12, μ => ⟨x1, x2, x3, x4, x5, x6, x7, x8, x9, x10, x11, x12, μ, rfl⟩
  | n :: l, x1, x2, x3, x4, x5, x6, x7, x8, x9, x10, x11, x12, μ => by
    obtain ⟨y2, y3, y4, y5, y6, y7, y8, y9, y10, y11, y12, μ1, e⟩ := body_ok n x0 x2 x3 x4 x5 x6 x7 x8 x9 x10 x11 x12 x13 x14 x15 μ
    obtain ⟨z1, z2, z3, z4, z5, z6, z7, z8, z9, z10, z11, z12, μ', e2⟩ := cells_ok x0 x13 x14 x15 l (some (.d (.int n))) y2 y3 y4 y5 y6 y7 y8 y9 y10 y11 y12 μ1
    refine ⟨z1, z2, z3, z4, z5, z6, z7, z8, z9, z10, z11, z12, μ', ?_⟩
    have st : forL (tName 1) SB ((n :: l).map .int) [x0, x1, x2, x3, x4, x5, x6, x7, x8, x9, x10, x11, x12, x13, x14, x15] μ = (match SB [x0, some (.d (.int n)), x2, x3, x4, x5, x6, x7, x8, x9, x10, x11, x12, x13, x14, x15] μ with
      | .nx ρ2 μ2 => forL (tName 1) SB (l.map .int) ρ2 μ2
      | .ct ρ2 μ2 => forL (tName 1) SB (l.map .int) ρ2 μ2
      | .bk ρ2 μ2 => .nx ρ2 μ2
      | .rt w μ2 => .rt w μ2
      | .er x μ2 => .er x μ2
      | .no => .no) := rfl
    rw [st, e]
    exact e2
/-! behind the cells -/
theorem try_new {ρ : Mi.Env} {μ : Sto} {a : AF} {ws : List W} {ds : List D} (ha : a ρ μ = .ok ws μ) (hd : asDs ws = some ds) (hs : SeqAt.shaped (.tuple ds) = true) (hf : fitsCh (.tuple ds) = false) :
    eTry (nmC clsL) (eNewS "Change" g_Change____init__ a) ρ μ = .ok (.d (.str "change value")) (μ ++ [some (.ins "Change" [])]) := by
  rw [x_eTry, newS_er ha hd hs hf]
  dsimp only
  rw [nm_change]
  rfl
theorem t_sub {ρ : Mi.Env} {μ : Sto} {k p : Nat} {l : List D} {i : Int} {a : AF} {ws : List W} {ds : List D} (hρ : ρ[14]? = some (some (.m k))) (hm : μ[k]? = some (some (.lst l))) (ha : a ρ μ = .ok ws μ) (hd : asDs ws = some ds) (hs : SeqAt.shaped (.tuple ds) = true)
    (hf : fitsCh (.tuple ds) = false) (hi : ixI l.length i = some p) : ∃ μ', sSub (eVar 14) (eInt i) (eTry (nmC clsL) (eNewS "Change" g_Change____init__ a)) ρ μ = .nx ρ μ' ∧ μ'[k]? = some (some (.lst (l.set p (.str "change value")))) := by
  have hk : k < μ.length := (List.getElem?_eq_some_iff.mp hm).1
  have hm2 : mlist (μ ++ [some (.ins "Change" [])]) k = some l := by
    unfold mlist
    rw [List.getElem?_append_left hk, hm]
  refine ⟨(μ ++ [some (Cell.ins "Change" [])]).set k (some (.lst (l.set p (.str "change value")))), ?_, ?_⟩
  · rw [x_sSub, try_new ha hd hs hf]
    simp only [R.bindS_ok, x_eVar, hρ, x_eInt, hm2, hi]
  · rw [List.getElem?_set_self (by simp; omega)]
def P30 : Pc := ⟨some far, none, false, 1⟩
def Q10 : Pc := ⟨some 0, some 9, false, 10⟩
theorem p30_sep : Sep [P30] := ⟨True.intro, fun q hq i j h1 h2 => by obtain rfl := List.mem_singleton.mp hq; cases h2⟩
theorem q10_sep : Sep [Q10] := ⟨True.intro, fun q hq i j h1 h2 => by
  obtain rfl := List.mem_singleton.mp hq
  have h1 : some (0 : Int) = some i := h1
  have h2 : some (9 : Int) = some j := h2
  cases h1
  cases h2
  decide⟩
theorem q10_off : AllOff [Q10] := by
  intro t ht p e
  have k := parts_all q10_sep ht
  obtain ⟨hm, e1, e2⟩ := k.some_ p e
  obtain rfl := List.mem_singleton.mp hm
  rw [if_neg (by decide)]
  have f0 : flo Q10 = 0 := rfl
  have t9 : topP Q10 = 9 := rfl
  have z1 := mx_r (-Bey) (flo Q10)
  refine (off_iff q10_sep (fun q hq => ?_)).mpr fun v h1 h2 h3 => ?_
  · obtain rfl := List.mem_singleton.mp hq
    rw [f0]
    decide
  · have by10 : Q10.by_ = 10 := rfl
    rw [by10] at h1
    unfold pieceOf
    rw [List.find?_eq_none]
    intro q hq
    obtain rfl := List.mem_singleton.mp hq
    have : ¬ v ≤ 9 := by omega
    show ¬ (decide ((0 : Int) ≤ v) && decide (v ≤ 9)) = true
    simp [this]
theorem tail_ok (x0 x1 x2 x3 x4 x5 x6 x7 x8 x9 x10 x11 x12 x13 x14 x15 : Option W) (μ : Sto) : ∃ μ', (sSeq T1 (sSeq T2 (sSeq T3 (sSeq T4 (sSeq T5 (sSeq T6 (sSeq T7 (sSeq T8 T9)))))))) [x0, x1, x2, x3, x4, x5, x6, x7, x8, x9, x10, x11, x12, x13, x14, x15] μ = .rt (.d (.bool true)) μ' := by
  have g1 : T1 [x0, x1, x2, x3, x4, x5, x6, x7, x8, x9, x10, x11, x12, x13, x14, x15] μ = .nx [x0, x1, x2, x3, x4, x5, x6, x7, x8, x9, x10, x11, x12, some (.d (.tuple [.int 0, .int 9, .str "add", .int 1])), x14, x15] μ := rfl
  have ec : ∀ ρ μ, eTry (nmC clsL) (eNewS "Change" g_Change____init__ aNil) ρ μ = .ok (.d (.str "change value")) (μ ++ [some (.ins "Change" [])]) := fun ρ μ => try_new (ws := []) (ds := []) rfl rfl rfl rfl
  have g2 : T2 [x0, x1, x2, x3, x4, x5, x6, x7, x8, x9, x10, x11, x12, some (.d (.tuple [.int 0, .int 9, .str "add", .int 1])), x14, x15] μ =
      .nx [x0, x1, x2, x3, x4, x5, x6, x7, x8, x9, x10, x11, x12, some (.d (.tuple [.int 0, .int 9, .str "add", .int 1])), some (.m (μ ++ [some (Cell.ins "Change" [])]).length), x15] ((μ ++ [some (.ins "Change" [])]) ++ [some (.lst [.str "change value", .str "", .str "", .str ""])]) := by
    unfold T2
    rw [x_sAsg, x_eLstM, x_aCons, ec]
    rfl
  generalize hμ2 : (μ ++ [some (Cell.ins "Change" [])]) ++ [some (.lst [.str "change value", .str "", .str "", .str ""])] = μ2 at g2
  generalize hk : (μ ++ [some (Cell.ins "Change" [])]).length = k at g2
  have m2 : μ2[k]? = some (some (.lst [.str "change value", .str "", .str "", .str ""])) := by
    rw [← hμ2, ← hk]
    simp
  obtain ⟨μ3, g3, m3⟩ := t_sub (ρ := [x0, x1, x2, x3, x4, x5, x6, x7, x8, x9, x10, x11, x12, some (.d (.tuple [.int 0, .int 9, .str "add", .int 1])), some (.m k), x15]) (i := 1) (p := 1) (a := (aCons eNon aNil)) (ws := [.d .none]) (ds := [.none]) rfl m2 rfl rfl rfl rfl rfl
  obtain ⟨μ4, g4, m4⟩ := t_sub (ρ := [x0, x1, x2, x3, x4, x5, x6, x7, x8, x9, x10, x11, x12, some (.d (.tuple [.int 0, .int 9, .str "add", .int 1])), some (.m k), x15]) (i := 2) (p := 2) (a := (aCons (eVar 13) (aCons (eVar 13) aNil))) (ws := [.d (.tuple [.int 0, .int 9, .str "add", .int 1]), .d (.tuple [.int 0, .int 9, .str "add", .int 1])]) (ds := [.tuple [.int 0, .int 9, .str "add", .int 1], .tuple [.int 0, .int 9, .str "add", .int 1]]) rfl m3 rfl rfl (by kernel_rfl) (by kernel_rfl) rfl
  obtain ⟨μ5, g5, m5⟩ := t_sub (ρ := [x0, x1, x2, x3, x4, x5, x6, x7, x8, x9, x10, x11, x12, some (.d (.tuple [.int 0, .int 9, .str "add", .int 1])), some (.m k), x15]) (i := 3) (p := 3) (a := (aCons (eTup (aCons (eInt 1) (aCons (eInt 1) (aCons (eStr "set") (aCons (eInt 0) aNil))))) (aCons (eTup (aCons (eInt 2) (aCons (eInt 2) (aCons (eStr "set") (aCons (eInt 0) aNil))))) (aCons (eTup (aCons (eInt 3) (aCons (eInt 3) (aCons (eStr "set") (aCons (eInt 0) aNil))))) (aCons (eTup (aCons (eInt 4) (aCons (eInt 4) (aCons (eStr "set") (aCons (eInt 0) aNil))))) (aCons (eVar 13) aNil))))))
    (ws := [.d (.tuple [.int 1, .int 1, .str "set", .int 0]), .d (.tuple [.int 2, .int 2, .str "set", .int 0]), .d (.tuple [.int 3, .int 3, .str "set", .int 0]), .d (.tuple [.int 4, .int 4, .str "set", .int 0]), .d (.tuple [.int 0, .int 9, .str "add", .int 1])])
    (ds := [.tuple [.int 1, .int 1, .str "set", .int 0], .tuple [.int 2, .int 2, .str "set", .int 0], .tuple [.int 3, .int 3, .str "set", .int 0], .tuple [.int 4, .int 4, .str "set", .int 0], .tuple [.int 0, .int 9, .str "add", .int 1]]) rfl m4 rfl rfl (by kernel_rfl) (by kernel_rfl) rfl
  have m5 : μ5[k]? = some (some (.lst [.str "change value", .str "change value", .str "change value", .str "change value"])) := m5
  have ml5 : mlist μ5 k = some [.str "change value", .str "change value", .str "change value", .str "change value"] := by unfold mlist; rw [m5]
  have mul : dMul (.list [.str "change value"]) (.int 4) = some (.list [.str "change value", .str "change value", .str "change value", .str "change value"]) := by kernel_rfl
  have n6 : dNe (.list [.str "change value", .str "change value", .str "change value", .str "change value"]) (.list [.str "change value", .str "change value", .str "change value", .str "change value"]) = some (.bool false) := ne_self (by kernel_rfl)
  have g6 : T6 [x0, x1, x2, x3, x4, x5, x6, x7, x8, x9, x10, x11, x12, some (.d (.tuple [.int 0, .int 9, .str "add", .int 1])), some (.m k), x15] μ5 = .nx [x0, x1, x2, x3, x4, x5, x6, x7, x8, x9, x10, x11, x12, some (.d (.tuple [.int 0, .int 9, .str "add", .int 1])), some (.m k), x15] μ5 := by
    unfold T6
    simp only [x_sIf, x_eOp, x_eVar, x_eLst, x_aCons, x_aNil, x_eStr, x_eInt, List.getElem?_cons_zero, List.getElem?_cons_succ, R.bind_ok, asDs_cons, asDs_nil, Option.map_some, ofO_some, view_d, x_view_m, ml5, Option.bind_some, mul, n6, RS.test_ok, Bool.false_eq_true, if_false, x_sNil]
  have p30 : dPow (.int 10) (.int 30) = some (.int far) := by kernel_rfl
  have nw := newS_ok (ρ := [x0, x1, x2, x3, x4, x5, x6, x7, x8, x9, x10, x11, x12, some (.d (.tuple [.int 0, .int 9, .str "add", .int 1])), some (.m k), x15]) (μ := μ5) (μ1 := μ5) (a := (aCons (eTup (aCons (eOp dPow (eInt 10) (eInt 30)) (aCons eNon (aCons (eStr "add") (aCons (eInt 1) aNil))))) aNil)) (ws := [.d P30.d]) (ds := [P30.d])
    (by simp only [x_aCons, x_aNil, x_eTup, x_eOp, x_eInt, x_eNon, x_eStr, R.bind_ok, view_d, Option.bind_some, p30, Option.map_some, ofO_some, asDs_cons, asDs_nil]; rfl) rfl (by kernel_rfl) (by kernel_rfl)
  have g7 : T7 [x0, x1, x2, x3, x4, x5, x6, x7, x8, x9, x10, x11, x12, some (.d (.tuple [.int 0, .int 9, .str "add", .int 1])), some (.m k), x15] μ5 = .nx [x0, x1, x2, x3, x4, x5, x6, x7, x8, x9, x10, x11, x12, some (.d (.tuple [.int 0, .int 9, .str "add", .int 1])), some (.m k), some (.m μ5.length)] (μ5 ++ [vob (.tuple [P30.d])]) := by
    unfold T7
    rw [x_sAsg, nw]
    rfl
  have F7 : VAt (μ5 ++ [vob (.tuple [P30.d])]) μ5.length (.tuple ([P30].map Pc.d)) := VAt.last _ _
  generalize μ5 ++ [vob (.tuple [P30.d])] = μ7 at g7 F7
  generalize μ5.length = kf at g7 F7
  have r1 := rshift_spec F7 (.int 1)
  have r1 : g_Change____rshift__ [.m kf, .d (.int 1)] μ7 = if -far ≤ 1 ∧ 1 ≤ far then g_value_of [.d (.tuple (([P30].map (Pc.mv 1)).map Pc.d))] μ7 else .er ⟨"InvalidWorth", none⟩ μ7 := r1
  rw [if_pos (by decide), value_of_spec _ (sh_psd _), if_neg (by rw [show fitsCh (.tuple (([P30].map (Pc.mv 1)).map Pc.d)) = false by kernel_rfl]; decide)] at r1
  have r2 := rshift_spec F7 (.int (-1))
  have r2 : g_Change____rshift__ [.m kf, .d (.int (-1))] μ7 = if -far ≤ -1 ∧ -1 ≤ far then g_value_of [.d (.tuple (([P30].map (Pc.mv (-1))).map Pc.d))] μ7 else .er ⟨"InvalidWorth", none⟩ μ7 := r2
  rw [if_pos (by decide), value_of_spec _ (sh_psd _), if_pos (by kernel_rfl)] at r2
  have L8 := VAt.last μ7 (.tuple (([P30].map (Pc.mv (-1))).map Pc.d))
  have pc8 := pieces_spec L8
  have n8 := ne_self sh_cv
  have n9 : dNe (.tuple (([P30].map (Pc.mv (-1))).map Pc.d)) (.tuple [.tuple [.int (far - 1), .none, .str "add", .int 1]]) = some (.bool false) := ne_self (d := .tuple [.tuple [.int (far - 1), .none, .str "add", .int 1]]) (by kernel_rfl)
  have F8 := F7.app [vob (.tuple (([P30].map (Pc.mv (-1))).map Pc.d))]
  have g8 : T8 [x0, x1, x2, x3, x4, x5, x6, x7, x8, x9, x10, x11, x12, some (.d (.tuple [.int 0, .int 9, .str "add", .int 1])), some (.m k), some (.m kf)] μ7 = .nx [x0, x1, x2, x3, x4, x5, x6, x7, x8, x9, x10, x11, x12, some (.d (.tuple [.int 0, .int 9, .str "add", .int 1])), some (.m k), some (.m kf)] (μ7 ++ [vob (.tuple (([P30].map (Pc.mv (-1))).map Pc.d))]) := by
    unfold T8
    simp only [x_sIf, x_eOr, x_eOp, x_eTry, x_eBinM, x_eProp, x_eTup, x_aCons, x_aNil, x_eVar, x_eInt, x_eNon, x_eStr, x_eUn, List.getElem?_cons_zero, List.getElem?_cons_succ, R.bind_ok, F7.mins, if_true, r1, nm_change, Option.map_some, ofO_some, view_d, Option.bind_some, n8, R.test_ok, Bool.false_eq_true, if_false,
      x_negI, r2, L8.mins, pc8, x_noEr1, p30, x_subI, asDs_cons, asDs_nil, n9, RS.test_ok, x_sNil]
  generalize μ7 ++ [vob (.tuple (([P30].map (Pc.mv (-1))).map Pc.d))] = μ8 at g8 F8
  have nq := newS_ok (ρ := [x0, x1, x2, x3, x4, x5, x6, x7, x8, x9, x10, x11, x12, some (.d (.tuple [.int 0, .int 9, .str "add", .int 1])), some (.m k), some (.m kf)]) (μ := μ8) (μ1 := μ8) (a := (aCons (eTup (aCons (eInt 0) (aCons (eInt 9) (aCons (eStr "add") (aCons (eInt 10) aNil))))) aNil)) (ws := [.d Q10.d]) (ds := [Q10.d])
    rfl rfl (by kernel_rfl) (by kernel_rfl)
  have Lq : VAt (μ8 ++ [vob (.tuple [Q10.d])]) μ8.length (.tuple ([Q10].map Pc.d)) := VAt.last _ _
  have F9 := F8.app [vob (.tuple [Q10.d])]
  generalize μ8 ++ [vob (.tuple [Q10.d])] = μ9 at nq Lq F9
  generalize μ8.length = kq at nq Lq
  obtain ⟨b1, eb, hb⟩ := bool_spec Lq (by decide)
  have hb1 : b1 = true := hb.mpr q10_off
  subst hb1
  have p39 : dPow (.int 10) (.int 39) = some (.int 1000000000000000000000000000000000000000) := by kernel_rfl
  have e1 : (pieceOf [P30] 1000000000000000000000000000000000000000).isSome = true := by decide +kernel
  have e2 : (pieceOf [P30] (-1000000000000000000000000000000000000000)).isSome = false := by decide +kernel
  have c1 : g_Change____contains__ [.m kf, .d (.int 1000000000000000000000000000000000000000)] μ9 = .ok (.d (.bool (pieceOf [P30] 1000000000000000000000000000000000000000).isSome)) μ9 := contains_spec F9 (.int 1000000000000000000000000000000000000000)
  have c2 : g_Change____contains__ [.m kf, .d (.int (-1000000000000000000000000000000000000000))] μ9 = .ok (.d (.bool (pieceOf [P30] (-1000000000000000000000000000000000000000)).isSome)) μ9 := contains_spec F9 (.int (-1000000000000000000000000000000000000000))
  rw [e1] at c1
  rw [e2] at c2
  have q4 : dEq (.int 4) (.int 4) = some (.bool true) := rfl
  have qb : dIsB (.bool true) (.bool true) = some (.bool true) := rfl
  refine ⟨μ9, ?_⟩
  rw [seq_nx g1, seq_nx g2, seq_nx (F := T3) g3, seq_nx (F := T4) g4, seq_nx (F := T5) g5, seq_nx g6, seq_nx g7, seq_nx g8]
  unfold T9
  simp only [x_sRet, x_eAnd, x_eOp, x_eInt, R.bind_ok, view_d, Option.bind_some, q4, Option.map_some, ofO_some, R.test_ok, if_true, x_eTruM, nq, Lq.mins, eb, x_eBl, qb, x_eInM, p39, x_eVar, List.getElem?_cons_zero, List.getElem?_cons_succ, F9.mins, c1, x_eUn, x_negI, c2, Bool.not_false, Bool.false_eq_true, if_false, R.bindS_ok]
theorem law_true (ns : List Int) (hn : ns.length ≤ 63) (_ : ∀ z ∈ ns, Builtin.Int.intBits z ≤ 1048576) : g_law [.d (.list (ns.map .int))] [] = .ok (.d (.bool true)) [] := by
  rw [show g_law = fnOf 1 16 F_law from rfl, fnOf1, F_eq]
  have ad : dAdd (.list [.int 0]) (.list (ns.map .int)) = some (.list ((0 :: ns).map .int)) := by
    show (if _ then _ else _) = _
    rw [if_pos (by have : (100 : Nat) ≤ LIM := by decide
                   simp only [List.length_cons, List.length_nil, List.length_map]; omega)]
    rfl
  have ct : dCut (.list ((0 :: ns).map .int)) none (some 8) = some (.list (((0 :: ns).take 8).map .int)) := by
    show some (PyData.list (cutL _ none (some ((8 : Nat) : Int)))) = _
    rw [cutL_to, List.map_take]
  obtain ⟨y1, y2, y3, y4, y5, y6, y7, y8, y9, y10, y11, y12, μ', e⟩ := cells_ok (some (.d (.list (ns.map .int)))) none none none ((0 :: ns).take 8) none none none none none none none none none none none none []
  have si : SI [some (.d (.list (ns.map .int))), none, none, none, none, none, none, none, none, none, none, none, none, none, none, none] [] = .ok (((0 :: ns).take 8).map .int) [] := by
    unfold SI
    simp only [x_iSeq, x_eSl, x_eOp, x_eLst, x_aCons, x_aNil, x_eInt, x_eVar, List.getElem?_cons_zero, R.bind_ok, asDs_cons, asDs_nil, Option.map_some, ofO_some, view_d, Option.bind_some, ad, x_part0, x_part1, ct, items]
  have g0 : sFor (tName 1) SI SB [some (.d (.list (ns.map .int))), none, none, none, none, none, none, none, none, none, none, none, none, none, none, none] [] = .nx [some (.d (.list (ns.map .int))), y1, y2, y3, y4, y5, y6, y7, y8, y9, y10, y11, y12, none, none, none] μ' := by
    rw [x_sFor, si, R.bindS_ok]
    exact e
  obtain ⟨μ2, et⟩ := tail_ok (some (.d (.list (ns.map .int)))) y1 y2 y3 y4 y5 y6 y7 y8 y9 y10 y11 y12 none none none μ'
  rw [show (some (W.d (.list (ns.map .int))) :: List.replicate (16 - 1) none : Mi.Env) = [some (.d (.list (ns.map .int))), none, none, none, none, none, none, none, none, none, none, none, none, none, none, none] from rfl, seq_nx g0, et]
  simp [fin]
end Pure

set_option linter.all false
set_option Elab.async false
set_option maxRecDepth 100000
set_option maxHeartbeats 0
open PySem PySem.W PySem.Calls PyProof.Rows
theorem PySem.Challenge.cw_metagain_k14_changes_as_values_holds : PySem.Challenge.rw_metagain_k14_changes_as_values.Holds := by
  w_on; o_law
  refine HandSHeadRun.head_any (r := OpenLaw.row PySem.Challenge.rw_metagain_k14_changes_as_values) (q := view (OpenLaw.row PySem.Challenge.rw_metagain_k14_changes_as_values).prog [73]) (H := Hd.hk) (ob := Hd.ob) (M := 9000) (loose := Hd.loose) (d := HandSHeadRun.topDef (OpenLaw.row PySem.Challenge.rw_metagain_k14_changes_as_values).prog 73) (kwd := []) Hd.ob_eq
    (by kernel_rfl) (fun s => by kernel_rfl) Hd.run (by kernel_rfl) (by kernel_rfl) (by kernel_rfl) (by rfl) (by first | assumption | decide +kernel) (by decide +kernel) ⟨rfl, rfl, rfl, rfl, rfl, by decide +kernel⟩ ?hw ?hc
  case hw => w_witness2
  case hc =>
    refine LamX.walk_ofTsE (l := PySem.Challenge.rw_metagain_k14_changes_as_values) (n := 63) (k := 15) (x := "script") (CX := fun w => L2N.CX PySem.Challenge.rw_metagain_k14_changes_as_values.prog w) rfl (by decide) (by kernel_rfl) ⟨rfl, by decide, by decide⟩ ?F (fun w H s e s' z => by
      obtain ⟨_, _, _, _, _, _, _, _, _, _, _, _, z⟩ := z
      exact z)
    intro w mg fa h Y G hmg0
    obtain ⟨K, KX, c⟩ := Y
    have hmg : mg ("law" : PySem.Str) = some (.ref fa) := by
      have e : (HandSHeadRun.topDef (OpenLaw.row PySem.Challenge.rw_metagain_k14_changes_as_values).prog 73).name = ("law" : PySem.Str) := by kernel_rfl
      rw [← e]
      exact hmg0
    exact ⟨K, KX, Hd.at_law KX G c hmg Pure.law_true⟩
