import PyProof.Rows.All
import PyProof.EqLayable
import PyProof.StrBlockL
import KE.IntText
import HandS.ForMost
import HandS.ForExc
import HandS.Lambda
import HandS.Wide
import HandS.IsInst
import HandS.TupAny
import HandS.TupMul
import HandS.Rev
import HandS.Conv
import HandS.Deep
import HandS.ExcCtx
import HandS.Defaults
import PyProof.StrOps2
import PyProof.FitsStr
import PyProof.Rows.IntBool
import PyProof.CallStr
import HandS.Flow
import HandS.SortInts
import HandS.RaiseMore
import HandS.Style
import HandS.NoneIn
import HandS.Zip
import HandS.HotCalls
import HandS.ExcIs
import KE.GoesEnum
import HandS.SetBool
import PyProof.Rows.SetFrom
import PyProof.SetRoads
import HandS.CallLocal
import KE.KRevSl
import HandS.HeadHook4
import HandS.HeadWalk
import HandS.HeadEnd
import PySem.Challenge.RW_metagain_k05_whole_fates_of_thirty_figur
import HandS.Head0
import HandS.Head1
import HandS.Head2
set_option Elab.async false
set_option linter.all false
/-! The mirror's language: what the pieces of a def do to plain data; no machine here. -/
namespace Mi
open PySem
abbrev D := PyData
/-- what a name holds: plain data; a list (or an object) of one's own that may change; a def or a class of the text; an error that was caught, at that address -/
inductive W where
  | d (d : D) | m (k : Nat) | f (x : Str) | x (a : Nat)
inductive Cell where
  | lst (l : List D) | ins (c : Str) (fs : List (Str × D))
abbrev Sto := List (Option Cell)
structure Exn where
  cls : Str
  arg : Option D := none
inductive R (α : Type) where
  | ok (a : α) (μ : Sto) | er (x : Exn) (μ : Sto) | no
def R.bind {α β : Type} (r : R α) (f : α → Sto → R β) : R β := match r with
  | .ok a μ => f a μ
  | .er x μ => .er x μ
  | .no => .no
@[simp] theorem R.bind_ok {α β : Type} (a : α) (μ : Sto) (f : α → Sto → R β) : (R.ok a μ).bind f = f a μ := rfl
@[simp] theorem R.bind_er {α β : Type} (x : Exn) (μ : Sto) (f : α → Sto → R β) : (R.er x μ : R α).bind f = .er x μ := rfl
@[simp] theorem R.bind_no {α β : Type} (f : α → Sto → R β) : (R.no : R α).bind f = .no := rfl
/-- an option as a result -/
def ofO {α : Type} (o : Option α) (μ : Sto) : R α := match o with
  | some a => .ok a μ
  | none => .no
@[simp] theorem ofO_some {α : Type} (a : α) (μ : Sto) : ofO (some a) μ = .ok a μ := rfl
@[simp] theorem ofO_none {α : Type} (μ : Sto) : ofO (none : Option α) μ = .no := rfl
abbrev Env := List (Option W)
abbrev EF := Env → Sto → R W
abbrev AF := Env → Sto → R (List W)
abbrev GF := List W → Sto → R W
inductive RS where
  | nx (ρ : Env) (μ : Sto) | rt (w : W) (μ : Sto) | bk (ρ : Env) (μ : Sto) | ct (ρ : Env) (μ : Sto) | er (x : Exn) (μ : Sto) | no
abbrev SF := Env → Sto → RS
def R.bindS {α : Type} (r : R α) (f : α → Sto → RS) : RS := match r with
  | .ok a μ => f a μ
  | .er x μ => .er x μ
  | .no => .no
@[simp] theorem R.bindS_ok {α : Type} (a : α) (μ : Sto) (f : α → Sto → RS) : (R.ok a μ).bindS f = f a μ := rfl
@[simp] theorem R.bindS_er {α : Type} (x : Exn) (μ : Sto) (f : α → Sto → RS) : (R.er x μ : R α).bindS f = .er x μ := rfl
@[simp] theorem R.bindS_no {α : Type} (f : α → Sto → RS) : (R.no : R α).bindS f = .no := rfl

/-- one's own list of that number -/
def mlist (μ : Sto) (k : Nat) : Option (List D) := match μ[k]? with
  | some (some (.lst l)) => some l
  | _ => none
/-- the data that a value shows now -/
def view (μ : Sto) : W → Option D
  | .d d => some d
  | .m k => (mlist μ k).map .list
  | .f _ => none
  | .x _ => none
@[simp] theorem view_d (μ : Sto) (d : D) : view μ (.d d) = some d := rfl
def asDs : List W → Option (List D)
  | [] => some []
  | .d d :: r => (asDs r).map (d :: ·)
  | _ :: _ => none
def views (μ : Sto) : List W → Option (List D)
  | [] => some []
  | w :: r => (view μ w).bind fun d => (views μ r).map (d :: ·)
@[simp] theorem asDs_nil : asDs [] = some [] := rfl
@[simp] theorem asDs_cons (d : D) (r : List W) : asDs (.d d :: r) = (asDs r).map (d :: ·) := rfl

/-! ### expressions -/
def eVar (i : Nat) : EF := fun ρ μ => match ρ[i]? with
  | some (some w) => .ok w μ
  | _ => .no
def eC (d : D) : EF := fun _ μ => .ok (.d d) μ
def eInt (i : Int) : EF := eC (.int i)
def eStr (x : Str) : EF := eC (.str x)
def eBl (b : Bool) : EF := eC (.bool b)
def eNon : EF := eC .none
def eFn (x : Str) : EF := fun _ μ => .ok (.f x) μ
/-- an operator on two values -/
def eOp (op : D → D → Option D) (f g : EF) : EF := fun ρ μ => (f ρ μ).bind fun a μ1 => (g ρ μ1).bind fun b μ2 =>
  ofO ((view μ2 a).bind fun x => (view μ2 b).bind fun y => (op x y).map W.d) μ2
def eUn (op : D → Option D) (f : EF) : EF := fun ρ μ => (f ρ μ).bind fun a μ1 =>
  ofO ((view μ1 a).bind fun x => (op x).map W.d) μ1
def aNil : AF := fun _ μ => .ok [] μ
def aCons (f : EF) (r : AF) : AF := fun ρ μ => (f ρ μ).bind fun a μ1 => (r ρ μ1).bind fun as μ2 => .ok (a :: as) μ2
def eTup (a : AF) : EF := fun ρ μ => (a ρ μ).bind fun ws μ1 => ofO ((asDs ws).map fun ds => W.d (.tuple ds)) μ1
def eLst (a : AF) : EF := fun ρ μ => (a ρ μ).bind fun ws μ1 => ofO ((asDs ws).map fun ds => W.d (.list ds)) μ1
/-- a list that will be changed -/
def eLstM (a : AF) : EF := fun ρ μ => (a ρ μ).bind fun ws μ1 => match asDs ws with
  | some ds => .ok (.m μ1.length) (μ1 ++ [some (.lst ds)])
  | none => .no
def eCall (g : GF) (a : AF) : EF := fun ρ μ => (a ρ μ).bind g
/-- a builtin's call, by what its arguments show -/
def eBlt (h : List D → Option D) (a : AF) : EF := fun ρ μ => (a ρ μ).bind fun ws μ1 => ofO ((views μ1 ws).bind fun ds => (h ds).map W.d) μ1
def isB : W → Option Bool
  | .d (.bool b) => some b
  | _ => none
@[simp] theorem isB_d (b : Bool) : isB (.d (.bool b)) = some b := rfl
/-- behind a test -/
def R.test (r : R W) (f : Bool → Sto → R W) : R W := r.bind fun w μ => match isB w with
  | some b => f b μ
  | none => .no
@[simp] theorem R.test_ok (b : Bool) (μ : Sto) (f : Bool → Sto → R W) : (R.ok (.d (.bool b)) μ).test f = f b μ := rfl
@[simp] theorem R.test_er (x : Exn) (μ : Sto) (f : Bool → Sto → R W) : (R.er x μ : R W).test f = .er x μ := rfl
def eAnd (f g : EF) : EF := fun ρ μ => (f ρ μ).test fun b μ1 => if b = true then g ρ μ1 else .ok (.d (.bool false)) μ1
def eOr (f g : EF) : EF := fun ρ μ => (f ρ μ).test fun b μ1 => if b = true then .ok (.d (.bool true)) μ1 else g ρ μ1
def eNot (f : EF) : EF := fun ρ μ => (f ρ μ).test fun b μ1 => .ok (.d (.bool (!b))) μ1
def eIf (c f g : EF) : EF := fun ρ μ => (c ρ μ).test fun b μ1 => if b = true then f ρ μ1 else g ρ μ1
/-- a op b op' c -/
def eChain (op op' : D → D → Option D) (f g h : EF) : EF := fun ρ μ => (f ρ μ).bind fun a μ1 => (g ρ μ1).bind fun b μ2 =>
  (ofO ((view μ2 a).bind fun x => (view μ2 b).bind fun y => (op x y).map W.d) μ2).test fun k μ3 => if k = true then
    (h ρ μ3).bind fun c μ4 => ofO ((view μ4 b).bind fun x => (view μ4 c).bind fun y => (op' x y).map W.d) μ4
  else .ok (.d (.bool false)) μ3
def isNonW : W → Bool
  | .d .none => true
  | _ => false
def eIsN (f : EF) : EF := fun ρ μ => (f ρ μ).bind fun a μ1 => .ok (.d (.bool (isNonW a))) μ1
def eNotN (f : EF) : EF := fun ρ μ => (f ρ μ).bind fun a μ1 => .ok (.d (.bool (!isNonW a))) μ1
/-- a slice -/
def ePart (o : Option EF) : Env → Sto → R (Option Int) := fun ρ μ => match o with
  | none => .ok none μ
  | some f => (f ρ μ).bind fun w μ1 => match w with
    | .d (.int i) => .ok (some i) μ1
    | _ => .no
def eSl (cut : D → Option Int → Option Int → Option D) (f : EF) (lo hi : Option EF) : EF := fun ρ μ => (f ρ μ).bind fun a μ1 =>
  (ePart lo ρ μ1).bind fun l μ2 => (ePart hi ρ μ2).bind fun h μ3 => ofO ((view μ3 a).bind fun x => (cut x l h).map W.d) μ3

/-! ### operators -/
def LIM : Nat := 1000000
def bI (b : Bool) : Int := if b = true then (1 : Int) else 0
def dAdd : D → D → Option D
  | .int a, .int b => some (.int (a + b))
  | .bool a, .int b => some (.int (bI a + b))
  | .str a, .str b => if a.length + b.length ≤ LIM then some (.str (a ++ b)) else none
  | .list a, .list b => if a.length + b.length ≤ LIM then some (.list (a ++ b)) else none
  | .tuple a, .tuple b => if a.length + b.length ≤ LIM then some (.tuple (a ++ b)) else none
  | _, _ => none
def dSub : D → D → Option D
  | .int a, .int b => some (.int (a - b))
  | .bool a, .int b => some (.int (bI a - b))
  | _, _ => none
/-- a product that the machine takes -/
def mulOk (a b : Int) : Prop := (a.natAbs < 2 ^ 64 ∨ b.natAbs < 2 ^ 64) ∨ (a.natAbs < 2 ^ 1000 ∧ b.natAbs < 2 ^ 1000)
instance (a b : Int) : Decidable (mulOk a b) := by unfold mulOk; infer_instance
def dMul : D → D → Option D
  | .int a, .int b => if mulOk a b then some (.int (a * b)) else none
  | .list a, .int n => if 0 ≤ n ∧ n ≤ 1000 ∧ a.length ≤ 1000 then some (.list (List.replicate n.toNat a).flatten) else none
  | .tuple a, .int n => if 2 ≤ n ∧ n ≤ 1000 ∧ a.length ≤ 1000 ∧ a ≠ [] then some (.tuple (List.replicate n.toNat a).flatten) else none
  | .str a, .int n => if 2 ≤ n ∧ n ≤ 1000 ∧ 1 ≤ a.length ∧ a.length ≤ 1000 then some (.str ⟨(List.replicate n.toNat a.cps).foldl (· ++ ·) #[]⟩) else none
  | _, _ => none
def divOk (b : Int) : Prop := 0 < b ∧ b < 2 ^ 1000
instance (b : Int) : Decidable (divOk b) := by unfold divOk; infer_instance
def divNeg (b : Int) : Prop := b < 0 ∧ b.natAbs < 2 ^ 1000
instance (b : Int) : Decidable (divNeg b) := by unfold divNeg; infer_instance
def dDiv : D → D → Option D
  | .int a, .int b => if divOk b then some (.int (a / b)) else if divNeg b then some (.int (a.fdiv b)) else none
  | _, _ => none
def dMod : D → D → Option D
  | .int a, .int b => if 0 < b then some (.int (a % b)) else if b < 0 then some (.int (a.fmod b)) else none
  | _, _ => none
def dPow : D → D → Option D
  | .int a, .int b => if 0 ≤ b ∧ b ≤ 1000 ∧ a.natAbs < 2 ^ 64 then some (.int (a ^ b.toNat)) else none
  | _, _ => none
def dNeg : D → Option D
  | .int a => some (.int (-a))
  | .bool a => some (.int (-(bI a)))
  | _ => none
def cmpI (p : Int → Int → Bool) : D → D → Option D
  | .int a, .int b => some (.bool (p a b))
  | _, _ => none
def dLt := cmpI fun a b => decide (a < b)
def dLe := cmpI fun a b => decide (a ≤ b)
def dGt := cmpI fun a b => decide (b < a)
def dGe := cmpI fun a b => decide (b ≤ a)
def dEq (a b : D) : Option D := if SeqAt.shaped a = true ∧ SeqAt.shaped b = true then some (.bool (PyData.eqv a b)) else none
def dNe (a b : D) : Option D := if SeqAt.shaped a = true ∧ SeqAt.shaped b = true then some (.bool (!PyData.eqv a b)) else none
def dIsB : D → D → Option D
  | .bool a, .bool b => some (.bool (a == b))
  | _, _ => none
def dIsNotB : D → D → Option D
  | .bool a, .bool b => some (.bool (a != b))
  | _, _ => none
def flatD : D → Bool
  | .none => true
  | .bool _ => true
  | .int _ => true
  | .str _ => true
  | _ => false
/-- x in xs, of flat things; a sign in a text -/
def dIn : D → D → Option D
  | x, .list l => if flatD x = true ∧ l.all flatD = true then some (.bool (l.any fun y => PyData.eqv y x)) else none
  | x, .tuple l => if flatD x = true ∧ l.all flatD = true then some (.bool (l.any fun y => PyData.eqv y x)) else none
  | .str x, .str y => if x.cps.size = 1 then some (.bool (decide (x.cps.getD 0 0 ∈ y.cps.toList))) else none
  | _, _ => none
def dNotIn (x y : D) : Option D := match dIn x y with
  | some (.bool b) => some (.bool (!b))
  | _ => none
/-- an item -/
def ixI (n : Nat) (i : Int) : Option Nat := if 0 ≤ i then (if i < n then some i.toNat else none) else (if -(n : Int) ≤ i then some (i + n).toNat else none)
def dIx : D → D → Option D
  | .list l, .int i => (ixI l.length i).bind fun k => l[k]?
  | .tuple l, .int i => (ixI l.length i).bind fun k => l[k]?
  | _, _ => none
def six (n d : Nat) : Option Int → Nat
  | none => d
  | some v => if v < 0 then (v + (n : Int)).toNat else min v.toNat n
def cutL {α : Type} (l : List α) (lo hi : Option Int) : List α := (l.drop (six l.length 0 lo)).take (six l.length l.length hi - six l.length 0 lo)
def cutT (z : Str) (lo hi : Option Int) : Str := ⟨(cutL z.cps.toList lo hi).toArray⟩
def dCut : D → Option Int → Option Int → Option D
  | .str z, lo, hi => if z.length ≤ LIM then some (.str (cutT z lo hi)) else none
  | .list l, lo, hi => some (.list (cutL l lo hi))
  | .tuple l, lo, hi => some (.tuple (cutL l lo hi))
  | _, _, _ => none
def dRevL : D → Option D
  | .list l => some (.list l.reverse)
  | _ => none
def dRev : D → Option D
  | .list l => some (.list l.reverse)
  | .tuple l => some (.tuple l.reverse)
  | _ => none

/-! ### builtins -/
def bLen : List D → Option D
  | [.list l] => some (.int l.length)
  | [.tuple l] => some (.int l.length)
  | [.str x] => if x.length ≤ LIM then some (.int x.length) else none
  | _ => none
def bMax2 : List D → Option D
  | [.int a, .int b] => some (.int (if b > a then b else a))
  | _ => none
def bMin2 : List D → Option D
  | [.int a, .int b] => some (.int (if b < a then b else a))
  | _ => none
def bInt : List D → Option D
  | [.int a] => some (.int a)
  | [.str a] => (PySem.intText? a).bind fun n => if a.length ≤ 640 then some (.int n) else none
  | [.bool b] => some (.int (if b then 1 else 0))
  | _ => none
def bStr : List D → Option D
  | [.int i] => if i.natAbs.log2 < 1920 then some (.str (toString i)) else none
  | [.str a] => some (.str a)
  | [.bool b] => some (.str (if b then "True" else "False"))
  | _ => none
/-- what a value is worth as a test -/
def truD : D → Option Bool
  | .none => some false
  | .bool b => some b
  | .int i => some (i != 0)
  | .str x => if x.length ≤ LIM then some ((x.length : Int) != 0) else none
  | .list l => some (!l.isEmpty)
  | .tuple l => some (!l.isEmpty)
  | _ => none
def eNotT (f : EF) : EF := eUn (fun d => (truD d).map fun b => .bool (!b)) f
def intsOf : List D → Option (List Int)
  | [] => some []
  | .int x :: r => (intsOf r).map (x :: ·)
  | _ :: _ => none
def insI (x : Int) : List Int → List Int
  | [] => [x]
  | y :: r => if x ≤ y then x :: y :: r else y :: insI x r
def isort : List Int → List Int
  | [] => []
  | x :: r => insI x (isort r)
def minI : Int → List Int → Int
  | a, [] => a
  | a, b :: r => minI (if b < a then b else a) r
/-- the least of a list -/
def bMin1 : List D → Option D
  | [.list l] => (intsOf l).bind fun ns => match ns with
    | [] => none
    | a :: r => some (.int (minI a r))
  | _ => none
def bSorted : List D → Option D
  | [.list l] => (intsOf l).map fun ns => .list ((isort ns).map .int)
  | _ => none
def bAbs : List D → Option D
  | [.int a] => some (.int (if a < 0 then -a else a))
  | _ => none
def allB : List D → Option Bool
  | [] => some true
  | .bool b :: r => (allB r).map (b && ·)
  | _ :: _ => none
def bAll : List D → Option D
  | [.list l] => (allB l).map .bool
  | _ => none
def bTup : List D → Option D
  | [.list l] => some (.tuple l)
  | [.tuple l] => some (.tuple l)
  | _ => none
def bLst : List D → Option D
  | [.list l] => some (.list l)
  | [.tuple l] => some (.list l)
  | _ => none
def sumI : List D → Option Int
  | [] => some 0
  | .int i :: r => (sumI r).map (i + ·)
  | _ :: _ => none
def bSum : List D → Option D
  | [.list l] => (sumI l).map .int
  | _ => none
/-- isinstance by the kinds that are asked -/
inductive Ty where | int | bool | str | tuple | list
def isTy : Ty → D → Bool
  | .int, .int _ => true
  | .int, .bool _ => true
  | .bool, .bool _ => true
  | .str, .str _ => true
  | .tuple, .tuple _ => true
  | .list, .list _ => true
  | _, _ => false
def eIsi (t : Ty) (f : EF) : EF := eUn (fun d => some (.bool (isTy t d))) f

/-- a method of a list that stays, with one argument -/
def eLm (op : List D → D → Option D) (f g : EF) : EF := fun ρ μ => (f ρ μ).bind fun a μ1 => match a with
  | .d (.list l) => (g ρ μ1).bind fun b μ2 => ofO ((view μ2 b).bind fun y => (op l y).map W.d) μ2
  | _ => .no
def lIndex (l : List D) (x : D) : Option D := if flatD x = true ∧ l.all flatD = true then (l.findIdx? fun z => PyData.eqv z x).map fun j => .int (j : Nat) else none
def lCount (l : List D) (x : D) : Option D := if flatD x = true ∧ l.all flatD = true then some (.int (l.countP fun z => PyData.eqv z x : Nat)) else none
/-! ### statements -/
def sNil : SF := fun ρ μ => .nx ρ μ
def sSeq (F G : SF) : SF := fun ρ μ => match F ρ μ with
  | .nx ρ1 μ1 => G ρ1 μ1
  | r => r
def sAsg (i : Nat) (f : EF) : SF := fun ρ μ => (f ρ μ).bindS fun w μ1 => .nx (ρ.set i (some w)) μ1
/-- a, b = x, y -/
def sPar (i j : Nat) (f g : EF) : SF := fun ρ μ => (f ρ μ).bindS fun w μ1 => (g ρ μ1).bindS fun u μ2 => .nx ((ρ.set i (some w)).set j (some u)) μ2
/-- targets of plain data -/
abbrev TF := D → Env → Option Env
def tName (i : Nat) : TF := fun d ρ => some (ρ.set i (some (.d d)))
def tTups : List TF → List D → Env → Option Env
  | [], [], ρ => some ρ
  | t :: ts, d :: ds, ρ => (t d ρ).bind fun ρ1 => tTups ts ds ρ1
  | _, _, _ => none
def tTup (ts : List TF) : TF := fun d ρ => match d with
  | .tuple ds => tTups ts ds ρ
  | _ => none
/-- the items of a list -/
def tUnl (ts : List TF) : TF := fun d ρ => match d with
  | .list ds => tTups ts ds ρ
  | _ => none
def sTgt (t : TF) (f : EF) : SF := fun ρ μ => (f ρ μ).bindS fun w μ1 => match w with
  | .d d => (match t d ρ with | some ρ1 => .nx ρ1 μ1 | none => .no)
  | _ => .no
def sDrop (f : EF) : SF := fun ρ μ => (f ρ μ).bindS fun _ μ1 => .nx ρ μ1
def sRet (f : EF) : SF := fun ρ μ => (f ρ μ).bindS fun w μ1 => .rt w μ1
/-- return of a name whose list is not changed any more -/
def sRetF (f : EF) : SF := fun ρ μ => (f ρ μ).bindS fun w μ1 => match view μ1 w with
  | some d => .rt (.d d) (match w with | .m k => μ1.set k none | _ => μ1)
  | none => .no
def RS.test (r : R W) (f : Bool → Sto → RS) : RS := r.bindS fun w μ => match isB w with
  | some b => f b μ
  | none => .no
@[simp] theorem RS.test_ok (b : Bool) (μ : Sto) (f : Bool → Sto → RS) : RS.test (R.ok (.d (.bool b)) μ) f = f b μ := rfl
def sIf (c : EF) (F G : SF) : SF := fun ρ μ => RS.test (c ρ μ) fun b μ1 => if b = true then F ρ μ1 else G ρ μ1
def sBreak : SF := fun ρ μ => .bk ρ μ
def sCont : SF := fun ρ μ => .ct ρ μ
def sRaise (x : Str) : SF := fun _ μ => .er ⟨x, none⟩ μ
/-- the items of what a for walks -/
abbrev IF := Env → Sto → R (List D)
def charsOf (x : Str) : List D := x.cps.toList.map fun c => .str ⟨#[c]⟩
def items : D → Option (List D)
  | .str x => if x.length ≤ LIM then some (charsOf x) else none
  | .list l => some l
  | .tuple l => some l
  | _ => none
def iSeq (f : EF) : IF := fun ρ μ => (f ρ μ).bind fun w μ1 => match w with
  | .d d => ofO (items d) μ1
  | _ => .no
def rangeD (a b : Int) : List D := (List.range (b - a).toNat).map fun (k : Nat) => PyData.int (a + k)
def iRange1 (f : EF) : IF := fun ρ μ => (f ρ μ).bind fun w μ1 => match w with
  | .d (.int b) => if -(LIM : Int) ≤ b ∧ b ≤ LIM then .ok (rangeD 0 b) μ1 else .no
  | _ => .no
def iRange2 (f g : EF) : IF := fun ρ μ => (f ρ μ).bind fun w μ1 => (g ρ μ1).bind fun u μ2 => match w, u with
  | .d (.int a), .d (.int b) => if -(LIM : Int) ≤ a ∧ a ≤ LIM ∧ -(LIM : Int) ≤ b ∧ b ≤ LIM then .ok (rangeD a b) μ2 else .no
  | _, _ => .no
/-- list(range(..)) -/
def eLRg (it : IF) : EF := fun ρ μ => (it ρ μ).bind fun l μ1 => .ok (.d (.list l)) μ1
def forL (t : TF) (B : SF) : List D → SF
  | [] => fun ρ μ => .nx ρ μ
  | d :: r => fun ρ μ => match t d ρ with
    | none => .no
    | some ρ1 => match B ρ1 μ with
      | .nx ρ2 μ2 => forL t B r ρ2 μ2
      | .ct ρ2 μ2 => forL t B r ρ2 μ2
      | .bk ρ2 μ2 => .nx ρ2 μ2
      | .rt w μ2 => .rt w μ2
      | .er x μ2 => .er x μ2
      | .no => .no
def sFor (t : TF) (it : IF) (B : SF) : SF := fun ρ μ => (it ρ μ).bindS fun l μ1 => forL t B l ρ μ1
def whileN (c : EF) (B : SF) : Nat → SF
  | 0 => fun _ _ => .no
  | n + 1 => fun ρ μ => RS.test (c ρ μ) fun b μ1 => if b = true then (match B ρ μ1 with
      | .nx ρ2 μ2 => whileN c B n ρ2 μ2
      | .ct ρ2 μ2 => whileN c B n ρ2 μ2
      | .bk ρ2 μ2 => .nx ρ2 μ2
      | .rt w μ2 => .rt w μ2
      | .er x μ2 => .er x μ2
      | .no => .no) else .nx ρ μ1
/-- a while, of at most so many turns -/
def sWhile (n : Nat) (c : EF) (B : SF) : SF := whileN c B n

/-! ### comprehensions -/
def wipeE (ρ : Env) : List Nat → Env
  | [] => ρ
  | i :: r => (wipeE ρ r).set i none
def lcL (t : TF) (c : EF) (e : EF) (ρ : Env) : List D → List D → Sto → R W
  | [], acc, μ => .ok (.d (.list acc)) μ
  | d :: r, acc, μ => match t d ρ with
    | none => .no
    | some ρ1 => match c ρ1 μ with
      | .ok (.d (.bool true)) μ1 => match e ρ1 μ1 with
        | .ok (.d y) μ2 => lcL t c e ρ r (acc ++ [y]) μ2
        | _ => .no
      | .ok (.d (.bool false)) μ1 => lcL t c e ρ r acc μ1
      | _ => .no
def eYes : EF := eBl true
def eLc (vs : List Nat) (t : TF) (it : IF) (c : EF) (e : EF) : EF := fun ρ μ => (it ρ μ).bind fun l μ1 => lcL t c e (wipeE ρ vs) l [] μ1

/-! ### lists that change -/
def eApp (f e : EF) : EF := fun ρ μ => (f ρ μ).bind fun w μ1 => match w with
  | .m k => (match mlist μ1 k with
    | some _ => (e ρ μ1).bind fun u μ2 => (match u, mlist μ2 k with
      | .d d, some l => if l.length < LIM then .ok (.d .none) (μ2.set k (some (.lst (l ++ [d])))) else .no
      | _, _ => .no)
    | none => .no)
  | _ => .no
/-- o[i] = e -/
def sSub (o i e : EF) : SF := fun ρ μ => (e ρ μ).bindS fun u μ1 => (o ρ μ1).bindS fun w μ2 => (i ρ μ2).bindS fun j μ3 => match u, w, j with
  | .d d, .m k, .d (.int n) => (match mlist μ3 k with
    | some l => (match ixI l.length n with
      | some p => .nx ρ (μ3.set k (some (.lst (l.set p d))))
      | none => .no)
    | none => .no)
  | _, _, _ => .no

/-! ### methods of texts -/
def eM0 (op : Str → Option D) (f : EF) : EF := fun ρ μ => (f ρ μ).bind fun w μ1 => match w with
  | .d (.str a) => ofO ((op a).map W.d) μ1
  | _ => .no
def eM1 (op : Str → D → Option D) (f g : EF) : EF := fun ρ μ => (f ρ μ).bind fun w μ1 => match w with
  | .d (.str a) => (g ρ μ1).bind fun u μ2 => ofO ((view μ2 u).bind fun y => (op a y).map W.d) μ2
  | _ => .no
def mUpper (a : Str) : Option D := if a.length ≤ LIM then some (.str (Txt.upper a)) else none
def strsOf : List D → Option (List Str)
  | [] => some []
  | .str x :: r => (strsOf r).map (x :: ·)
  | _ :: _ => none
def mSplit (a : Str) : D → Option D
  | .str b => if b.length ≠ 0 ∧ a.length ≤ LIM then some (.list ((Txt.split a b).map .str)) else none
  | _ => none
def joinOk (a : Str) (ys : List Str) : Prop := (ys.map (·.length)).sum + ys.length * a.length ≤ LIM
instance (a : Str) (ys : List Str) : Decidable (joinOk a ys) := by unfold joinOk; infer_instance
def mJoin (a : Str) : D → Option D
  | .list l => (strsOf l).bind fun ys => if joinOk a ys then some (.str (Txt.join a ys)) else none
  | .tuple l => (strsOf l).bind fun ys => if joinOk a ys then some (.str (Txt.join a ys)) else none
  | _ => none
/-- isinstance of the error that is handled -/
def eIsX (a : Nat) (b : Bool) (f : EF) : EF := fun ρ μ => (f ρ μ).bind fun w μ1 => match w with
  | .x k => if k = a then .ok (.d (.bool b)) μ1 else .no
  | _ => .no
/-- zip of two lists -/
def iZipD (f g : EF) : IF := fun ρ μ => (f ρ μ).bind fun w μ1 => (g ρ μ1).bind fun u μ2 => match w, u with
  | .d (.list l), .d (.list r) => if l.length ≤ LIM then .ok ((l.zip r).map fun p => .tuple [p.1, p.2]) μ2 else .no
  | _, _ => .no

def enumD (l : List D) : List D := l.zipIdx.map fun p => .tuple [.int (p.2 : Nat), p.1]
/-- enumerate of a tuple or a list -/
def iEnumD (f : EF) : IF := fun ρ μ => (f ρ μ).bind fun w μ1 => match w with
  | .d (.tuple l) => if l.length ≤ LIM then .ok (enumD l) μ1 else .no
  | .d (.list l) => if l.length ≤ LIM then .ok (enumD l) μ1 else .no
  | _ => .no

def boolsL : List D → Option (List Bool)
  | [] => some []
  | .bool b :: l => (boolsL l).map (b :: ·)
  | _ :: _ => none
/-- how many truth values -/
def cntB (bs : List Bool) : Nat := (if true ∈ bs then 1 else 0) + (if false ∈ bs then 1 else 0)
/-- len(set(list of truth values)) -/
def eLenSet (f : EF) : EF := fun ρ μ => (f ρ μ).bind fun w μ1 => match w with
  | .d (.list l) => match boolsL l with
    | some bs => if bs.length ≤ 1000 then .ok (.d (.int (cntB bs : Nat))) μ1 else .no
    | none => .no
  | _ => .no

/-! ### a call that is tried -/
def eTry (nm : Exn → Option Str) (f : EF) : EF := fun ρ μ => match f ρ μ with
  | .ok _ μ1 => .ok (.d (.str "")) μ1
  | .er x μ1 => ofO ((nm x).map fun s => W.d (.str s)) μ1
  | .no => .no

/-- list + list, for a list that will be changed -/
def eCatM (f g : EF) : EF := fun ρ μ => (f ρ μ).bind fun a μ1 => (g ρ μ1).bind fun b μ2 => match view μ2 a, view μ2 b with
  | some (.list x), some (.list y) => if x.length + y.length ≤ LIM then .ok (.m μ2.length) (μ2 ++ [some (.lst (x ++ y))]) else .no
  | _, _ => .no
/-- from here on a list is not changed any more -/
def sFrz (i : Nat) : SF := fun ρ μ => match ρ[i]? with
  | some (some (.m k)) => (match mlist μ k with | some l => .nx (ρ.set i (some (.d (.list l)))) (μ.set k none) | none => .no)
  | _ => .no
/-! ### defs as values -/
/-- a comprehension over things that are written one behind another (defs, too) -/
def lcW (i : Nat) (e : EF) (ρ : Env) : List W → List D → Sto → R W
  | [], acc, μ => .ok (.d (.list acc)) μ
  | w :: r, acc, μ => match e (ρ.set i (some w)) μ with
    | .ok (.d y) μ1 => lcW i e ρ r (acc ++ [y]) μ1
    | _ => .no
def eLcW (vs : List Nat) (i : Nat) (r : AF) (e : EF) : EF := fun ρ μ => (r ρ μ).bind fun ws μ1 => lcW i e (wipeE ρ vs) ws [] μ1
/-- a call of a name that holds one of several defs -/
def eCallV (i : Nat) (gs : List (Str × GF)) (a : AF) : EF := fun ρ μ => match ρ[i]? with
  | some (some (.f x)) => (match gs.lookup x with | some g => (a ρ μ).bind g | none => .no)
  | _ => .no

/-! ### defs -/
def startE (n : Nat) (ws : List W) : Env := ws.map some ++ List.replicate (n - ws.length) none
def fin (n : Nat) : RS → R W
  | .nx _ μ => .ok (.d .none) (μ.take n)
  | .rt (.d d) μ => .ok (.d d) (μ.take n)
  | .rt (.f x) μ => .ok (.f x) (μ.take n)
  | .rt (.m k) μ => if k < n then .ok (.m k) (μ.take n) else if k = n then .ok (.m k) (μ.take (n + 1)) else .no
  | .er x μ => .er x (μ.take n)
  | _ => .no
/-- a def of so many names, p of them its parameters -/
def fnOf (p n : Nat) (F : SF) : GF := fun ws μ => if ws.length = p then fin μ.length (F (startE n ws) μ) else .no

/-! ### an error's names -/
def ownCls : List Str := ["InvalidChange", "InvalidPiece", "InvalidStatement", "InvalidWorth", "InvalidNumber", "InvalidOrder", "InvalidPrices", "InvalidPairs", "InvalidText", "InvalidIndex", "InvalidRow", "InvalidTable", "Unlike", "Done", "NothingToUndo", "TooMany"]
def labs : List Str := ["change value", "piece value", "statement value", "worth value", "number value", "order value", "prices value", "pairs value", "text value", "index value", "row value", "table value", "unlike value", "done value", "undo value", "many value"]
/-- what isinstance answers, one class behind another, of an error of class i -/
def bOf (i j : Nat) : Bool := j == i || j == 16
def F_names (a : Nat) (b : Nat → Bool) : SF :=
  (sSeq (sAsg 1 (eLst (aCons (eIsX a (b 0) (eVar 0)) (aCons (eIsX a (b 1) (eVar 0)) (aCons (eIsX a (b 2) (eVar 0)) aNil)))))
  (sSeq (sAsg 1 (eOp dAdd (eVar 1) (eLst (aCons (eIsX a (b 3) (eVar 0)) (aCons (eIsX a (b 4) (eVar 0)) (aCons (eIsX a (b 5) (eVar 0)) aNil))))))
  (sSeq (sAsg 1 (eOp dAdd (eVar 1) (eLst (aCons (eIsX a (b 6) (eVar 0)) (aCons (eIsX a (b 7) (eVar 0)) (aCons (eIsX a (b 8) (eVar 0)) aNil))))))
  (sSeq (sAsg 1 (eOp dAdd (eVar 1) (eLst (aCons (eIsX a (b 9) (eVar 0)) (aCons (eIsX a (b 10) (eVar 0)) (aCons (eIsX a (b 11) (eVar 0)) aNil))))))
  (sSeq (sAsg 1 (eOp dAdd (eVar 1) (eLst (aCons (eIsX a (b 12) (eVar 0)) (aCons (eIsX a (b 13) (eVar 0)) (aCons (eIsX a (b 14) (eVar 0)) aNil))))))
  (sSeq (sAsg 1 (eOp dAdd (eVar 1) (eLst (aCons (eIsX a (b 15) (eVar 0)) (aCons (eIsX a (b 16) (eVar 0)) aNil)))))
  (sSeq (sAsg 2 (eStr "change piece statement worth number order prices pairs text index row table unlike done undo many value"))
  (sRet (eM1 mJoin (eStr " ") (eLc [3, 4] (tTup [tName 3, tName 4]) (iZipD (eM1 mSplit (eVar 2) (eStr " ")) (eVar 1)) (eVar 4) (eVar 3)))))))))))
theorem eVar1_at (x w : _) (ρ : Env) (μ : Sto) : eVar 1 (x :: some w :: ρ) μ = .ok w μ := rfl
theorem dAdd_short (a b : List D) (h : a.length + b.length ≤ LIM) : dAdd (.list a) (.list b) = some (.list (a ++ b)) := if_pos h
theorem eIsX_at (a : Nat) (b : Bool) (ρ : Env) (μ : Sto) : eIsX a b (eVar 0) (some (.x a) :: ρ) μ = .ok (.d (.bool b)) μ := by
  simp [eIsX, eVar]
def nmC (cl : List Str) (x : Exn) : Option Str := match x.arg with
  | some _ => none
  | none => if cl.contains x.cls then (ownCls.idxOf? x.cls).bind fun i => labs[i]? else none
def boolsOf (b : Nat → Bool) : List D := [.bool (b 0), .bool (b 1), .bool (b 2), .bool (b 3), .bool (b 4), .bool (b 5), .bool (b 6), .bool (b 7), .bool (b 8), .bool (b 9), .bool (b 10), .bool (b 11), .bool (b 12), .bool (b 13), .bool (b 14), .bool (b 15), .bool (b 16)]
theorem names_eval0 (a : Nat) (b : Nat → Bool) (μ : Sto) : F_names a b (startE 5 [.x a]) μ =
    sRet (eM1 mJoin (eStr " ") (eLc [3, 4] (tTup [tName 3, tName 4]) (iZipD (eM1 mSplit (eVar 2) (eStr " ")) (eVar 1)) (eVar 4) (eVar 3))) [some (.x a), some (.d (.list (boolsOf b))), some (.d (.str "change piece statement worth number order prices pairs text index row table unlike done undo many value")), none, none] μ := by
  have s0 : startE 5 [.x a] = some (.x a) :: [none, none, none, none] := rfl
  rw [s0]
  unfold F_names
  simp [sSeq, sAsg, eLst, aCons, aNil, eIsX_at, eVar1_at, R.bind_ok, R.bindS_ok, asDs_cons, asDs_nil, Option.map_some, ofO_some, List.set_cons_succ, List.set_cons_zero, eOp, view_d, Option.bind_some,
    dAdd, List.cons_append, List.nil_append, eStr, eC, List.length_cons, List.length_nil, LIM, Nat.reduceAdd, Nat.reduceLeDiff]
  rfl
theorem names_eval (a : Nat) : ∀ (i : Nat) (s : Str) (μ : Sto), labs[i]? = some s → F_names a (bOf i) (startE 5 [.x a]) μ = .rt (.d (.str s)) μ := by
  intro i s μ h
  rw [names_eval0]
  exact match i, h with
  | 0, h => by cases h; kernel_rfl
  | 1, h => by cases h; kernel_rfl
  | 2, h => by cases h; kernel_rfl
  | 3, h => by cases h; kernel_rfl
  | 4, h => by cases h; kernel_rfl
  | 5, h => by cases h; kernel_rfl
  | 6, h => by cases h; kernel_rfl
  | 7, h => by cases h; kernel_rfl
  | 8, h => by cases h; kernel_rfl
  | 9, h => by cases h; kernel_rfl
  | 10, h => by cases h; kernel_rfl
  | 11, h => by cases h; kernel_rfl
  | 12, h => by cases h; kernel_rfl
  | 13, h => by cases h; kernel_rfl
  | 14, h => by cases h; kernel_rfl
  | 15, h => by cases h; kernel_rfl
  | n + 16, h => by cases h
end Mi

set_option Elab.async false
set_option linter.all false
set_option maxRecDepth 100000
/-! The mirror's data on the abstract heap. -/
namespace L3
open PySem PySem.Spec PyProof.Rows L2 Mi

/-- what stands around: the written part, the module's names, the tables of lambdas -/
structure Cv where
  K : PySem.W.Frag
  mg : Str → Option Value
  T : List (Addr × Str)
/-- the addresses of one's own changing things; of those that nobody knows of yet (a comprehension's new list) -/
structure Al where
  own : List Addr
  hid : List Addr
def Own (α : Al) (μ : Sto) (a : Addr) : Prop := (∃ (k : Nat) (c : Cell), α.own[k]? = some a ∧ μ[k]? = some (some c)) ∨ a ∈ α.hid
mutual
inductive Rp (K : PySem.W.Frag) (H : Hp) (M : Addr → Prop) : V → D → Prop
  | non : Rp K H M .non .none
  | bl (b : Bool) : Rp K H M (.bl b) (.bool b)
  | int (i : Int) : Rp K H M (.int i) (.int i)
  | str (x : Str) : Rp K H M (.str x) (.str x)
  | lst {a : Addr} {xs : List V} {ds : List D} : Rd H a (.lst xs) → ¬ M a → RpAll K H M xs ds → Rp K H M (.ref a) (.list ds)
  | tup {a : Addr} {xs : List V} {ds : List D} : SqT K H a xs → RpAll K H M xs ds → Rp K H M (.ref a) (.tuple ds)
inductive RpAll (K : PySem.W.Frag) (H : Hp) (M : Addr → Prop) : List V → List D → Prop
  | nil : RpAll K H M [] []
  | cons {v : V} {vs : List V} {d : D} {ds : List D} : Rp K H M v d → RpAll K H M vs ds → RpAll K H M (v :: vs) (d :: ds)
end
/-- what a value shows, at the top a changing list too -/
def RpT (K : PySem.W.Frag) (H : Hp) (M : Addr → Prop) (v : V) (d : D) : Prop :=
  Rp K H M v d ∨ ∃ a xs ds, v = .ref a ∧ d = .list ds ∧ Rd H a (.lst xs) ∧ RpAll K H M xs ds
def RpW (C : Cv) (H : Hp) (α : Al) (μ : Sto) (v : V) : W → Prop
  | .d d => Rp C.K H (Own α μ) v d
  | .m k => ∃ a, α.own[k]? = some a ∧ v = .ref a
  | .f x => ∃ a, C.mg x = some (.ref a) ∧ v = .ref a
  | .x a => v = .ref a
inductive RpWs (C : Cv) (H : Hp) (α : Al) (μ : Sto) : List V → List W → Prop
  | nil : RpWs C H α μ [] []
  | cons {v : V} {vs : List V} {w : W} {ws : List W} : RpW C H α μ v w → RpWs C H α μ vs ws → RpWs C H α μ (v :: vs) (w :: ws)
def NT (o : HO) : Prop := ∀ ps, o ≠ .tbl ps
structure Ext (H : Hp) (M : Addr → Prop) (H' : Hp) (M' : Addr → Prop) : Prop where
  any : ∀ b o, H b = some o → ¬ M b → NT o → H' b = some o ∧ ¬ M' b
  tup : ∀ b xs, H b = some (.tup xs) → H' b = some (.tup xs)
  frz : ∀ b o u, H b = some (.frz o u) → H' b = some (.frz o u)
theorem Ext.refl (H : Hp) (M : Addr → Prop) : Ext H M H M := ⟨fun _ _ h n _ => ⟨h, n⟩, fun _ _ h => h, fun _ _ _ h => h⟩
theorem Ext.trans {H H1 H2 : Hp} {M M1 M2 : Addr → Prop} (a : Ext H M H1 M1) (b : Ext H1 M1 H2 M2) : Ext H M H2 M2 :=
  ⟨fun c o h n t => b.any c o (a.any c o h n t).1 (a.any c o h n t).2 t, fun c xs h => b.tup c xs (a.tup c xs h), fun c o u h => b.frz c o u (a.frz c o u h)⟩
theorem Ext.rd {H H' : Hp} {M M' : Addr → Prop} (e : Ext H M H' M') {a : Addr} {xs : List V} (h : Rd H a (.lst xs)) (n : ¬ M a) : Rd H' a (.lst xs) ∧ ¬ M' a := by
  rcases h with h | ⟨o, h⟩
  · have q := e.any a _ h n (fun ps z => by cases z)
    exact ⟨.inl q.1, q.2⟩
  · have q := e.any a _ h n (fun ps z => by cases z)
    exact ⟨.inr ⟨o, q.1⟩, q.2⟩
theorem Ext.sqT {H H' : Hp} {M M' : Addr → Prop} (e : Ext H M H' M') {K : PySem.W.Frag} {a : Addr} {xs : List V} (h : SqT K H a xs) : SqT K H' a xs := by
  rcases h with (h | ⟨o, h⟩) | h
  · exact .inl (.inl (e.tup _ _ h))
  · exact .inl (.inr ⟨o, e.frz _ _ _ h⟩)
  · exact .inr h
mutual
theorem Rp.ext {K : PySem.W.Frag} {H H' : Hp} {M M' : Addr → Prop} (e : Ext H M H' M') : ∀ {v : V} {d : D}, Rp K H M v d → Rp K H' M' v d
  | _, _, .non => .non
  | _, _, .bl b => .bl b
  | _, _, .int i => .int i
  | _, _, .str x => .str x
  | _, _, .lst h n r => .lst (e.rd h n).1 (e.rd h n).2 (RpAll.ext e r)
  | _, _, .tup h r => .tup (e.sqT h) (RpAll.ext e r)
theorem RpAll.ext {K : PySem.W.Frag} {H H' : Hp} {M M' : Addr → Prop} (e : Ext H M H' M') : ∀ {v : List V} {d : List D}, RpAll K H M v d → RpAll K H' M' v d
  | _, _, .nil => .nil
  | _, _, .cons h t => .cons (Rp.ext e h) (RpAll.ext e t)
end
mutual
theorem Rp.dp {K : PySem.W.Frag} {H : Hp} {M : Addr → Prop} : ∀ {v : V} {d : D}, Rp K H M v d → Dp K H v d
  | _, _, .non => .non
  | _, _, .bl b => .bl b
  | _, _, .int i => .int i
  | _, _, .str x => .str x
  | _, _, .lst h n r => .lst (.inl h) (RpAll.dp r)
  | _, _, .tup h r => .tup h (RpAll.dp r)
theorem RpAll.dp {K : PySem.W.Frag} {H : Hp} {M : Addr → Prop} : ∀ {v : List V} {d : List D}, RpAll K H M v d → DpAll K H v d
  | _, _, .nil => .nil
  | _, _, .cons h t => .cons (Rp.dp h) (RpAll.dp t)
end
theorem RpT.dp {K : PySem.W.Frag} {H : Hp} {M : Addr → Prop} {v : V} {d : D} (h : RpT K H M v d) : Dp K H v d := by
  rcases h with h | ⟨a, xs, ds, rfl, rfl, h, r⟩
  · exact h.dp
  · exact .lst (.inl h) r.dp
theorem RpAll.length {K : PySem.W.Frag} {H : Hp} {M : Addr → Prop} : ∀ {vs : List V} {ds : List D}, RpAll K H M vs ds → vs.length = ds.length
  | _, _, .nil => rfl
  | _, _, .cons _ t => congrArg (· + 1) (RpAll.length t)
theorem RpAll.get {K : PySem.W.Frag} {H : Hp} {M : Addr → Prop} : ∀ {vs : List V} {ds : List D} {i : Nat} {d : D}, RpAll K H M vs ds → ds[i]? = some d → ∃ v, vs[i]? = some v ∧ Rp K H M v d
  | _, _, _, _, .nil, e => by simp at e
  | _, _, 0, _, .cons r _, e => by simp at e; subst e; exact ⟨_, rfl, r⟩
  | _, _, i + 1, d, .cons _ t, e => by
    obtain ⟨v, h1, h2⟩ := RpAll.get (i := i) (d := d) t (by simpa using e)
    exact ⟨v, by simpa using h1, h2⟩
theorem RpAll.append {K : PySem.W.Frag} {H : Hp} {M : Addr → Prop} : ∀ {vs us : List V} {ds es : List D}, RpAll K H M vs ds → RpAll K H M us es → RpAll K H M (vs ++ us) (ds ++ es)
  | _, _, _, _, .nil, s => s
  | _, _, _, _, .cons r t, s => .cons r (RpAll.append t s)
theorem RpAll.take {K : PySem.W.Frag} {H : Hp} {M : Addr → Prop} : ∀ {vs : List V} {ds : List D} (n : Nat), RpAll K H M vs ds → RpAll K H M (vs.take n) (ds.take n)
  | _, _, 0, _ => by simp; exact .nil
  | _, _, _ + 1, .nil => by simp; exact .nil
  | _, _, n + 1, .cons r t => by simp; exact .cons r (RpAll.take n t)
theorem RpAll.drop {K : PySem.W.Frag} {H : Hp} {M : Addr → Prop} : ∀ {vs : List V} {ds : List D} (n : Nat), RpAll K H M vs ds → RpAll K H M (vs.drop n) (ds.drop n)
  | _, _, 0, r => r
  | _, _, _ + 1, .nil => by simp; exact .nil
  | _, _, n + 1, .cons _ t => by simp; exact RpAll.drop n t
theorem RpAll.set {K : PySem.W.Frag} {H : Hp} {M : Addr → Prop} {v : V} {d : D} (q : Rp K H M v d) : ∀ {vs : List V} {ds : List D} (i : Nat), RpAll K H M vs ds → RpAll K H M (vs.set i v) (ds.set i d)
  | _, _, _, .nil => .nil
  | _, _, 0, .cons _ t => .cons q t
  | _, _, i + 1, .cons r t => .cons r (RpAll.set q i t)
theorem RpAll.reverse {K : PySem.W.Frag} {H : Hp} {M : Addr → Prop} : ∀ {vs : List V} {ds : List D}, RpAll K H M vs ds → RpAll K H M vs.reverse ds.reverse
  | _, _, .nil => .nil
  | _, _, .cons r t => by simp; exact (RpAll.reverse t).append (.cons r .nil)
theorem RpT.list {K : PySem.W.Frag} {H : Hp} {M : Addr → Prop} {v : V} {ds : List D} (h : RpT K H M v (.list ds)) : ∃ a xs, v = .ref a ∧ Rd H a (.lst xs) ∧ RpAll K H M xs ds := by
  rcases h with h | ⟨a, xs, es, rfl, e, h, r⟩
  · cases h with
    | lst h n r => exact ⟨_, _, rfl, h, r⟩
  · cases e
    exact ⟨a, xs, rfl, h, r⟩
theorem RpT.tuple {K : PySem.W.Frag} {H : Hp} {M : Addr → Prop} {v : V} {ds : List D} (h : RpT K H M v (.tuple ds)) : ∃ a xs, v = .ref a ∧ SqT K H a xs ∧ RpAll K H M xs ds := by
  rcases h with h | ⟨a, xs, es, rfl, e, h, r⟩
  · cases h with
    | tup h r => exact ⟨_, _, rfl, h, r⟩
  · cases e
theorem RpT.int {K : PySem.W.Frag} {H : Hp} {M : Addr → Prop} {v : V} {i : Int} (h : RpT K H M v (.int i)) : v = .int i := by
  rcases h with h | ⟨a, xs, es, rfl, e, h, r⟩
  · cases h; rfl
  · cases e
theorem RpT.bl {K : PySem.W.Frag} {H : Hp} {M : Addr → Prop} {v : V} {i : Bool} (h : RpT K H M v (.bool i)) : v = .bl i := by
  rcases h with h | ⟨a, xs, es, rfl, e, h, r⟩
  · cases h; rfl
  · cases e
theorem RpT.str {K : PySem.W.Frag} {H : Hp} {M : Addr → Prop} {v : V} {i : Str} (h : RpT K H M v (.str i)) : v = .str i := by
  rcases h with h | ⟨a, xs, es, rfl, e, h, r⟩
  · cases h; rfl
  · cases e
theorem RpT.none {K : PySem.W.Frag} {H : Hp} {M : Addr → Prop} {v : V} (h : RpT K H M v .none) : v = .non := by
  rcases h with h | ⟨a, xs, es, rfl, e, h, r⟩
  · cases h; rfl
  · cases e
theorem RpT.nodict {K : PySem.W.Frag} {H : Hp} {M : Addr → Prop} {v : V} {kvs : List (D × D)} (h : RpT K H M v (.dict kvs)) : False := by
  rcases h with h | ⟨a, xs, es, rfl, e, h, r⟩
  · cases h
  · cases e

/-! ### the store -/
def CellOk (C : Cv) (H : Hp) (α : Al) (μ : Sto) (a : Addr) : Cell → Prop
  | .lst l => ∃ xs, H a = some (.lst xs) ∧ RpAll C.K H (Own α μ) xs l
  | .ins c fs => ∃ A dx gs, C.mg c = some (.ref A) ∧ H a = some (.ins A dx gs) ∧ gs.map (·.1) = fs.map (·.1) ∧ RpAll C.K H (Own α μ) (gs.map (·.2)) (fs.map (·.2))
structure Stor (C : Cv) (H : Hp) (α : Al) (μ : Sto) : Prop where
  len : α.own.length = μ.length
  nd : (α.own ++ α.hid).Nodup
  there : ∀ a ∈ α.own ++ α.hid, ∃ o, H a = some o ∧ NT o
  cell : ∀ (k : Nat) (c : Cell), μ[k]? = some (some c) → ∃ a, α.own[k]? = some a ∧ CellOk C H α μ a c
  tabs : LamX.Tabs C.T H
structure Step (H : Hp) (α : Al) (μ : Sto) (H' : Hp) (α' : Al) (μ' : Sto) : Prop where
  ext : Ext H (Own α μ) H' (Own α' μ')
  pre : ∀ (k : Nat) (a : Addr), α.own[k]? = some a → α'.own[k]? = some a
  hid : α'.hid = α.hid
  keep : ∀ b ∈ α.hid, H' b = H b
theorem Step.refl (H : Hp) (α : Al) (μ : Sto) : Step H α μ H α μ := ⟨.refl _ _, fun _ _ h => h, rfl, fun _ _ => rfl⟩
theorem Step.trans {H H1 H2 : Hp} {α α1 α2 : Al} {μ μ1 μ2 : Sto} (a : Step H α μ H1 α1 μ1) (b : Step H1 α1 μ1 H2 α2 μ2) : Step H α μ H2 α2 μ2 :=
  ⟨a.ext.trans b.ext, fun k x h => b.pre k x (a.pre k x h), b.hid.trans a.hid, fun c h => (b.keep c (by rw [a.hid]; exact h)).trans (a.keep c h)⟩
theorem RpW.step {C : Cv} {H H' : Hp} {α α' : Al} {μ μ' : Sto} (st : Step H α μ H' α' μ') {v : V} : ∀ {w : W}, RpW C H α μ v w → RpW C H' α' μ' v w
  | .d _, h => Rp.ext st.ext h
  | .m _, ⟨a, h, e⟩ => ⟨a, st.pre _ _ h, e⟩
  | .f _, h => h
  | .x _, h => h
theorem RpWs.step {C : Cv} {H H' : Hp} {α α' : Al} {μ μ' : Sto} (st : Step H α μ H' α' μ') : ∀ {vs : List V} {ws : List W}, RpWs C H α μ vs ws → RpWs C H' α' μ' vs ws
  | _, _, .nil => .nil
  | _, _, .cons h t => .cons (h.step st) (t.step st)
theorem RpWs.length {C : Cv} {H : Hp} {α : Al} {μ : Sto} : ∀ {vs : List V} {ws : List W}, RpWs C H α μ vs ws → vs.length = ws.length
  | _, _, .nil => rfl
  | _, _, .cons _ t => congrArg (· + 1) (RpWs.length t)
theorem mlist_at {μ : Sto} {k : Nat} {l : List D} (h : mlist μ k = some l) : μ[k]? = some (some (.lst l)) := by
  unfold mlist at h
  split at h
  · rename_i l' e
    cases h
    exact e
  · cases h
theorem RpW.view {C : Cv} {H : Hp} {α : Al} {μ : Sto} (S : Stor C H α μ) {v : V} {w : W} {d : D} (h : RpW C H α μ v w) (e : view μ w = some d) : RpT C.K H (Own α μ) v d := by
  cases w with
  | d d' => cases e; exact .inl h
  | f x => cases e
  | x a => cases e
  | m k =>
    obtain ⟨a, ha, rfl⟩ := h
    cases hk : mlist μ k with
    | none => simp [Mi.view, hk] at e
    | some l =>
      simp [Mi.view, hk] at e
      subst e
      obtain ⟨a', ha', xs, hx, r⟩ := S.cell k _ (mlist_at hk)
      rw [ha] at ha'; cases ha'
      exact .inr ⟨a, xs, l, rfl, rfl, .inl hx, r⟩
theorem Stor.own_ne {C : Cv} {H : Hp} {α : Al} {μ : Sto} (S : Stor C H α μ) {a : Addr} (h : H a = none) : ¬ Own α μ a := fun z => by
  have hm : a ∈ α.own ++ α.hid := by
    rcases z with ⟨k, c, h1, h2⟩ | z
    · exact List.mem_append_left _ (List.mem_of_getElem? h1)
    · exact List.mem_append_right _ z
  obtain ⟨o, e, _⟩ := S.there a hm
  rw [h] at e; cases e
/-- all that was tracked is as it was -/
theorem Same.ext {H H' : Hp} (e : Same H H') (M : Addr → Prop) : Ext H M H' M := ⟨fun b o h n _ => ⟨e b o h, n⟩, fun b xs h => e _ _ h, fun b o u h => e _ _ h⟩
theorem same_upd {H : Hp} {p : Addr} {o : HO} (h : H p = none) : Same H (upd H p o) := fun b x e => by
  rw [upd_ne (ne_of_none e h)]
  exact e
theorem Same.step {C : Cv} {H H' : Hp} {α : Al} {μ : Sto} (S : Stor C H α μ) (e : Same H H') : Step H α μ H' α μ :=
  ⟨Same.ext e _, fun _ _ h => h, rfl, fun b hb => by obtain ⟨o, q, _⟩ := S.there b (List.mem_append_right _ hb); rw [q]; exact e b o q⟩
theorem Stor.same {C : Cv} {H H' : Hp} {α : Al} {μ : Sto} (S : Stor C H α μ) (e : Same H H') : Stor C H' α μ where
  len := S.len
  nd := S.nd
  there := fun a h => let ⟨o, q, n⟩ := S.there a h; ⟨o, e _ _ q, n⟩
  cell := fun k c h => by
    obtain ⟨a, ha, hc⟩ := S.cell k c h
    refine ⟨a, ha, ?_⟩
    cases c with
    | lst l => obtain ⟨xs, h1, h2⟩ := hc; exact ⟨xs, e _ _ h1, h2.ext (Same.ext e _)⟩
    | ins c fs => obtain ⟨A, dx, gs, h1, h2, h3, h4⟩ := hc; exact ⟨A, dx, gs, h1, e _ _ h2, h3, h4.ext (Same.ext e _)⟩
  tabs := S.tabs.ext e
/-- slots -/
structure Sl (C : Cv) (H : Hp) (α : Al) (μ : Sto) (σ : L2.St) (ρ : Mi.Env) : Prop where
  len : ρ.length = σ.length
  at_ : ∀ (i : Nat) (w : W), ρ[i]? = some (some w) → ∃ v, σ[i]? = some (some v) ∧ RpW C H α μ v w
theorem Sl.step {C : Cv} {H H' : Hp} {α α' : Al} {μ μ' : Sto} {σ : L2.St} {ρ : Mi.Env} (st : Step H α μ H' α' μ') (s : Sl C H α μ σ ρ) : Sl C H' α' μ' σ ρ :=
  ⟨s.len, fun i w h => by obtain ⟨v, h1, h2⟩ := s.at_ i w h; exact ⟨v, h1, h2.step st⟩⟩
theorem Sl.set {C : Cv} {H : Hp} {α : Al} {μ : Sto} {σ : L2.St} {ρ : Mi.Env} (s : Sl C H α μ σ ρ) {v : V} {w : W} (r : RpW C H α μ v w) (i : Nat) : Sl C H α μ (σ.set i (some v)) (ρ.set i (some w)) := by
  refine ⟨by simp [s.len], fun j u h => ?_⟩
  by_cases e : i = j
  · subst e
    rw [List.getElem?_set] at h
    simp only [if_true] at h
    split at h
    · rename_i hl
      cases h
      refine ⟨v, ?_, r⟩
      rw [List.getElem?_set]
      simp [← s.len, hl]
    · cases h
  · rw [List.getElem?_set_ne e] at h
    obtain ⟨v', h1, h2⟩ := s.at_ j u h
    exact ⟨v', by rw [List.getElem?_set_ne e]; exact h1, h2⟩
theorem Sl.wipe {C : Cv} {H : Hp} {α : Al} {μ : Sto} {σ : L2.St} {ρ : Mi.Env} (s : Sl C H α μ σ ρ) : ∀ vs : List Nat, Sl C H α μ (L2.wipe σ vs) (wipeE ρ vs)
  | [] => s
  | i :: r => by
    have q := Sl.wipe s r
    refine ⟨?_, fun j u h => ?_⟩
    · rw [L2.wipe_length]
      show ((wipeE ρ r).set i none).length = _
      rw [List.length_set, q.len, L2.wipe_length]
    · have h : ((wipeE ρ r).set i none)[j]? = some (some u) := h
      by_cases e : i = j
      · subst e
        rw [List.getElem?_set] at h
        simp only [if_true] at h
        split at h <;> cases h
      · rw [List.getElem?_set_ne e] at h
        obtain ⟨v', h1, h2⟩ := q.at_ j u h
        refine ⟨v', ?_, h2⟩
        show (L2.wipe σ (i :: r))[j]? = _
        unfold L2.wipe
        rw [List.getElem?_set_ne e]
        exact h1
/-- an exception -/
def RpX (C : Cv) (H : Hp) (cls : Value) (d : Option Addr) (x : Exn) : Prop := C.mg x.cls = some cls ∧ match x.arg with
  | none => d = none
  | some y => ∃ a v, d = some a ∧ H a = some (.xd [("limit", v)]) ∧ Rp C.K H (fun _ => False) v y

/-! ### readings -/
def PQ (C : Cv) (E : XK) (Q : VK) (H : Hp) (α : Al) (μ : Sto) : R W → Prop
  | .ok w μ' => ∀ v H' α', Step H α μ H' α' μ' → Stor C H' α' μ' → RpW C H' α' μ' v w → Q v H'
  | .er x μ' => ∀ cls d H' α', Step H α μ H' α' μ' → Stor C H' α' μ' → RpX C H' cls d x → E cls d H'
  | .no => False
theorem PQ.step {C : Cv} {E : XK} {Q : VK} {H H1 : Hp} {α α1 : Al} {μ μ1 : Sto} {r : R W} (h : PQ C E Q H α μ r) (st : Step H α μ H1 α1 μ1) : PQ C E Q H1 α1 μ1 r := by
  cases r with
  | ok w μ' => exact fun v H' α' s S q => h v H' α' (st.trans s) S q
  | er x μ' => exact fun cls d H' α' s S q => h cls d H' α' (st.trans s) S q
  | no => exact h
def tD (C : Cv) (E : XK) (f : EF) : TE := fun σ H Q => ∃ ρ α μ, Stor C H α μ ∧ Sl C H α μ σ ρ ∧ PQ C E Q H α μ (f ρ μ)
/-- the workhorse -/
theorem tD_bind {C : Cv} {E : XK} {Q Q' : VK} {H : Hp} {α : Al} {μ : Sto} {σ : L2.St} {ρ : Mi.Env} {f : EF} {k : W → Sto → R W} (S : Stor C H α μ) (sl : Sl C H α μ σ ρ) (h : PQ C E Q H α μ ((f ρ μ).bind k))
    (cont : ∀ v w H1 α1 μ1, Step H α μ H1 α1 μ1 → Stor C H1 α1 μ1 → Sl C H1 α1 μ1 σ ρ → RpW C H1 α1 μ1 v w → PQ C E Q H1 α1 μ1 (k w μ1) → Q' v H1) : tD C E f σ H Q' := by
  refine ⟨ρ, α, μ, S, sl, ?_⟩
  cases e : f ρ μ with
  | ok w μ1 =>
    rw [e] at h
    exact fun v H1 α1 st S1 r => cont v w H1 α1 μ1 st S1 (sl.step st) r (PQ.step (r := k w μ1) h st)
  | er x μ1 => rw [e] at h; exact h
  | no => rw [e] at h; exact (show False from h).elim
end L3

set_option Elab.async false
set_option linter.all false
set_option maxRecDepth 100000
/-! One rule a construct: the machine does what the mirror says. -/
namespace L3
open PySem PySem.Spec PyProof.Rows L2 Mi

abbrev CvX (X : Cx) (T : List (Addr × Str)) : Cv := ⟨X.K, X.mg, T⟩
/-- what the rules ask of the context: j calls deep there is room; E: the wish about exceptions -/
structure CK (X : Cx) (E : XK) (j : Nat) : Prop where
  calm : X.calm = true
  nd : X.N.Nodup
  room : Room j X.A
  takes : L2N.Takes X (fun cls d _ H => E cls d H)
theorem CK.passes {X : Cx} {E : XK} {j : Nat} (c : CK X E j) : Passes (L2N.CX X.prog X.w) X E := L2N.passes_call c.takes fun _ _ _ _ h => h
theorem CK.hu {X : Cx} {E : XK} {j : Nat} (c : CK X E j) : X.A.units + 64 < cLine := c.room.units
def DE (X : Cx) (T : List (Addr × Str)) (E : XK) (e : Expr) (f : EF) : Prop := PE X e (tD (CvX X T) E f)
def DT (X : Cx) (T : List (Addr × Str)) (E : XK) (e : Expr) (f : EF) : Prop := PT X e (fun σ H Q => tD (CvX X T) E f σ H fun v H1 => ∃ b, v = .bl b ∧ Q b H1)
def DW (X : Cx) (T : List (Addr × Str)) (E : XK) (e : Expr) (f : EF) : Prop := PW X e (fun σ H Q => tD (CvX X T) E f σ H fun v H1 => ∃ b, v = .bl b ∧ Q b H1)
theorem pe_imp {X : Cx} {e : Expr} {t t' : TE} (h : PE X e t) (i : ∀ σ H Q, t' σ H Q → t σ H Q) : PE X e t' := ⟨fun pins s σ H Q I q => h.run pins s σ H Q I (i _ _ _ q)⟩
/-- the same, told of the very state -/
theorem pe_impI {X : Cx} {e : Expr} {t t' : TE} (h : PE X e t) (i : ∀ pins s σ H Q, Inv X pins σ H s → t' σ H Q → t σ H Q) : PE X e t' := ⟨fun pins s σ H Q I q => h.run pins s σ H Q I (i _ _ _ _ _ I q)⟩
theorem pt_imp {X : Cx} {e : Expr} {t t' : TT} (h : PT X e t) (i : ∀ σ H Q, t' σ H Q → t σ H Q) : PT X e t' := ⟨fun pins s σ H Q I q => h.run pins s σ H Q I (i _ _ _ q)⟩
theorem pw_imp {X : Cx} {e : Expr} {t t' : TT} (h : PW X e t) (i : ∀ σ H Q, t' σ H Q → t σ H Q) : PW X e t' := ⟨fun wh pins s σ H Q I q => h.run wh pins s σ H Q I (i _ _ _ q)⟩
theorem ps_imp {X : Cx} {e : Stmt} {t t' : TS} (h : PS X e t) (i : ∀ D σ H, t' D σ H → t D σ H) : PS X e t' := ⟨fun pins s σ H D I q => h.run pins s σ H D I (i _ _ _ q)⟩
theorem pss_imp {X : Cx} {e : List Stmt} {t t' : TS} (h : PSs X e t) (i : ∀ D σ H, t' D σ H → t D σ H) : PSs X e t' := ⟨fun pins s σ H D I q => h.run pins s σ H D I (i _ _ _ q)⟩

section
variable {C : Cv} {E : XK} {Q Q' : VK} {H : Hp} {α : Al} {μ : Sto} {σ : L2.St} {ρ : Mi.Env} {f : EF}
/-- the end of a value -/
theorem PQ.ok {v : V} {w : W} (S : Stor C H α μ) (r : RpW C H α μ v w) (h : PQ C E Q H α μ (.ok w μ)) : Q v H := h v H α (.refl _ _ _) S r
theorem tD_mono (h : tD C E f σ H Q) (hQ : ∀ v H', Q v H' → Q' v H') : tD C E f σ H Q' := by
  obtain ⟨ρ, α, μ, S, sl, q⟩ := h
  refine ⟨ρ, α, μ, S, sl, ?_⟩
  cases e : f ρ μ with
  | ok w μ1 => rw [e] at q; exact fun v H' α' st S' r => hQ _ _ (q v H' α' st S' r)
  | er x μ1 => rw [e] at q; exact q
  | no => rw [e] at q; exact q
/-- an end by a value that is known from an option -/
theorem PQ.ofO {o : Option W} (h : PQ C E Q H α μ (ofO o μ)) : ∃ w, o = some w ∧ PQ C E Q H α μ (.ok w μ) := by
  cases o with
  | none => exact (show False from h).elim
  | some w => exact ⟨w, rfl, h⟩
theorem PQ.test {r : R W} {k : Bool → Sto → R W} (h : PQ C E Q H α μ (r.test k)) : PQ C E Q H α μ (r.bind fun w μ1 => match isB w with | some b => k b μ1 | none => .no) := h
end
/-- tests: behind a bool -/
theorem tD_test {C : Cv} {E : XK} {Q Q' : VK} {H : Hp} {α : Al} {μ : Sto} {σ : L2.St} {ρ : Mi.Env} {f : EF} {k : Bool → Sto → R W} (S : Stor C H α μ) (sl : Sl C H α μ σ ρ) (h : PQ C E Q H α μ ((f ρ μ).test k))
    (cont : ∀ b H1 α1 μ1, Step H α μ H1 α1 μ1 → Stor C H1 α1 μ1 → Sl C H1 α1 μ1 σ ρ → PQ C E Q H1 α1 μ1 (k b μ1) → Q' (.bl b) H1) : tD C E f σ H Q' := by
  refine tD_bind S sl h fun v w H1 α1 μ1 st S1 sl1 r q => ?_
  cases w with
  | d d =>
    cases d with
    | bool b => cases r; exact cont b H1 α1 μ1 st S1 sl1 q
    | none => exact (show False from q).elim
    | int i => exact (show False from q).elim
    | str i => exact (show False from q).elim
    | list i => exact (show False from q).elim
    | tuple i => exact (show False from q).elim
    | dict i => exact (show False from q).elim
  | m k => exact (show False from q).elim
  | f k => exact (show False from q).elim
  | x k => exact (show False from q).elim

section
variable {X : Cx} {T : List (Addr × Str)} {E : XK} {j : Nat} {pos : Pos} {a b c : Expr} {f g h : EF}
/-! ### names, constants -/
theorem de_var (i : Nat) {x : Str} (hN : X.N[i]? = some x := by rfl) (hv : Vis X.env.scope x := by first | exact Or.inl rfl | exact Or.inr (Or.inl rfl) | exact Or.inr (Or.inr rfl)) (hd : (x == ("__debug__" : Str)) = false := by decide)
    (hcd : (x == ("__classdict__" : Str)) = false := by decide) : DE X T E (.Name x pos) (eVar i) := by
  refine pe_imp (pe_var hN hv hd hcd) fun σ H Q ⟨ρ, α, μ, S, sl, q⟩ => ?_
  unfold eVar at q
  split at q
  · rename_i w e
    obtain ⟨v, h1, h2⟩ := sl.at_ i w e
    exact ⟨v, h1, PQ.ok S h2 q⟩
  · exact (show False from q).elim
theorem de_c {e : Expr} {v : V} {d : D} (h : PE X e (tC v)) (r : ∀ K H M, Rp K H M v d) : DE X T E e (eC d) :=
  pe_imp h fun σ H Q ⟨ρ, α, μ, S, sl, q⟩ => PQ.ok (w := .d d) S (r _ _ _) q
theorem de_int {i : Int} {j' : Nat} : DE X T E (.Constant (.int i) j' pos) (eInt i) := de_c pe_int fun _ _ _ => .int i
theorem de_str {x : Str} {j' : Nat} : DE X T E (.Constant (.str x) j' pos) (eStr x) := de_c pe_str fun _ _ _ => .str x
theorem de_bl {x : Bool} {j' : Nat} : DE X T E (.Constant (.bool x) j' pos) (eBl x) := de_c pe_bl fun _ _ _ => .bl x
theorem de_non {j' : Nat} : DE X T E (.Constant .none j' pos) eNon := de_c pe_non fun _ _ _ => .non
/-- a module's int -/
theorem de_gint {x : Str} {i : Int} (hm : ∃ t, X.mg x = some (.int i t)) (hg : Gl X x := by rfl) (hd : (x == ("__debug__" : Str)) = false := by decide) : DE X T E (.Name x pos) (eInt i) := by
  obtain ⟨t, hm⟩ := hm
  exact de_c (pe_glob hg hm (v := .int i) ⟨t, rfl⟩ hd) fun _ _ _ => .int i
/-- a def or a class of the text, as a value -/
theorem de_fn {x : Str} {A : Addr} (hm : X.mg x = some (.ref A)) (hg : Gl X x := by rfl) (hd : (x == ("__debug__" : Str)) = false := by decide) : DE X T E (.Name x pos) (eFn x) :=
  pe_imp (pe_glob hg hm (v := .ref A) rfl hd) fun σ H Q ⟨ρ, α, μ, S, sl, q⟩ => PQ.ok (w := .f x) S ⟨A, hm, rfl⟩ q

/-! ### operators -/
/-- a rule of the machine serves an operator of the mirror -/
def OpS (C : Cv) (op : D → D → Option D) (r : R2) : Prop := ∀ H α μ x y a b z Q, Stor C H α μ → RpT C.K H (Own α μ) x a → RpT C.K H (Own α μ) y b → op a b = some z → (∀ v H', Same H H' → Rp C.K H' (Own α μ) v z → Q v H') → r x y H Q
def UnS (C : Cv) (op : D → Option D) (r : V → Hp → VK → Prop) : Prop := ∀ H α μ x a z Q, Stor C H α μ → RpT C.K H (Own α μ) x a → op a = some z → (∀ v H', Same H H' → Rp C.K H' (Own α μ) v z → Q v H') → r x H Q
theorem OpS.fin {C : Cv} {op : D → D → Option D} {r : R2} (hs : OpS C op r) {H : Hp} {α : Al} {μ : Sto} {x y : V} {w u : W} {Q : VK} (S : Stor C H α μ) (rx : RpW C H α μ x w) (ry : RpW C H α μ y u)
    (q : PQ C E Q H α μ (ofO ((view μ w).bind fun a => (view μ u).bind fun b => (op a b).map W.d) μ)) : r x y H Q := by
  obtain ⟨z, e, q⟩ := PQ.ofO q
  cases e1 : view μ w with
  | none => rw [e1] at e; cases e
  | some a =>
    rw [e1] at e
    cases e2 : view μ u with
    | none => simp [e2] at e
    | some b =>
      simp only [e2, Option.bind_some] at e
      cases e3 : op a b with
      | none => rw [e3] at e; cases e
      | some d =>
        rw [e3] at e
        cases e
        exact hs H α μ x y a b d Q S (rx.view S e1) (ry.view S e2) e3 fun v H' sm rv => q v H' α (Same.step S sm) (S.same sm) rv
theorem UnS.fin {C : Cv} {op : D → Option D} {r : V → Hp → VK → Prop} (hs : UnS C op r) {H : Hp} {α : Al} {μ : Sto} {x : V} {w : W} {Q : VK} (S : Stor C H α μ) (rx : RpW C H α μ x w)
    (q : PQ C E Q H α μ (ofO ((view μ w).bind fun a => (op a).map W.d) μ)) : r x H Q := by
  obtain ⟨z, e, q⟩ := PQ.ofO q
  cases e1 : view μ w with
  | none => rw [e1] at e; cases e
  | some a =>
    simp only [e1, Option.bind_some] at e
    cases e3 : op a with
    | none => rw [e3] at e; cases e
    | some d =>
      rw [e3] at e
      cases e
      exact hs H α μ x a d Q S (rx.view S e1) e3 fun v H' sm rv => q v H' α (Same.step S sm) (S.same sm) rv
theorem op_rd {C : Cv} {op : D → D → Option D} {r : R2} (hs : OpS C op r) {σ : L2.St} {H : Hp} {Q : VK} (q : tD C E (eOp op f g) σ H Q) : tOp r (tD C E f) (tD C E g) σ H Q := by
  obtain ⟨ρ, α, μ, S, sl, q⟩ := q
  refine tD_bind S sl q fun v w H1 α1 μ1 st1 S1 sl1 r1 q1 => ?_
  exact tD_bind S1 sl1 q1 fun u w2 H2 α2 μ2 st2 S2 sl2 r2 q2 => hs.fin S2 (r1.step st2) r2 q2
theorem de_op {o : Operator} {op : D → D → Option D} {r : R2} (ho : OpR X (binaryOp o) r) (hs : OpS (CvX X T) op r) (ha : DE X T E a f) (hb : DE X T E b g) : DE X T E (.BinOp a o b pos) (eOp op f g) :=
  pe_imp (pe_op ho ha hb) fun σ H Q q => op_rd hs q
theorem de_un {o : UnaryOp} {op : D → Option D} {r : V → Hp → VK → Prop} (ho : UnR X (unaryOp o) r) (hs : UnS (CvX X T) op r) (ha : DE X T E a f) : DE X T E (.UnaryOp o a pos) (eUn op f) :=
  pe_imp (pe_un ho ha) fun σ H Q ⟨ρ, α, μ, S, sl, q⟩ => tD_bind S sl q fun v w H1 α1 μ1 st1 S1 sl1 r1 q1 => hs.fin S1 r1 q1
theorem de_cmp {o : CmpOp} {op : D → D → Option D} {r : R2} (ho : OpR X (compareOp o) r) (hs : OpS (CvX X T) op r) (ha : DE X T E a f) (hb : DE X T E b g) (hm : behindInMarks o b = false := by first | exact nomark _ (by decide) (by decide) | with_unfolding_all rfl) : DE X T E (.Compare a [o] [b] pos) (eOp op f g) :=
  pe_imp (pe_cmpR ho ha hb hm) fun σ H Q q => op_rd hs q
theorem dt_cmp {o : CmpOp} {op : D → D → Option D} {r : R2} (ho : OpR X (compareOp o) r) (hs : OpS (CvX X T) op r) (ha : DE X T E a f) (hb : DE X T E b g) (hm : behindInMarks o b = false := by first | exact nomark _ (by decide) (by decide) | with_unfolding_all rfl) : DT X T E (.Compare a [o] [b] pos) (eOp op f g) :=
  pt_imp (pt_cmpR ho ha hb hm) fun σ H Q q => op_rd hs q
theorem chain_rd {C : Cv} {op op' : D → D → Option D} {r r' : R2} (hs : OpS C op r) (hs' : OpS C op' r') {σ : L2.St} {H : Hp} {Q : VK} (q : tD C E (eChain op op' f g h) σ H Q) : tChain r r' (tD C E f) (tD C E g) (tD C E h) σ H Q := by
  obtain ⟨ρ, α, μ, S, sl, q⟩ := q
  refine tD_bind S sl q fun v w H1 α1 μ1 st1 S1 sl1 r1 q1 => ?_
  refine tD_bind S1 sl1 q1 fun u w2 H2 α2 μ2 st2 S2 sl2 r2 q2 => ?_
  have rv := r1.step st2
  cases e1 : view μ2 w with
  | none => simp [e1, ofO, R.test] at q2; exact (show False from q2).elim
  | some x =>
    cases e2 : view μ2 w2 with
    | none => simp [e1, e2, ofO, R.test] at q2; exact (show False from q2).elim
    | some y =>
      cases e3 : op x y with
      | none => simp [e1, e2, e3, ofO, R.test] at q2; exact (show False from q2).elim
      | some z =>
        simp only [e1, e2, e3, Option.bind_some, Option.map_some, ofO_some] at q2
        refine hs H2 α2 μ2 v u x y z _ S2 (rv.view S2 e1) (r2.view S2 e2) e3 fun v3 H3 sm rz => ?_
        cases z with
        | bool k =>
          cases rz
          refine ⟨k, rfl, ?_⟩
          have S3 := S2.same sm
          have st3 : Step H2 α2 μ2 H3 α2 μ2 := Same.step S2 sm
          have q3 := PQ.step q2 st3
          have sl3 := sl2.step st3
          cases k with
          | true =>
            rw [if_pos rfl]
            exact tD_bind S3 sl3 q3 fun v4 w4 H4 α4 μ4 st4 S4 sl4 r4 q4 => hs'.fin S4 ((r2.step st3).step st4) r4 q4
          | false =>
            rw [if_neg Bool.false_ne_true]
            exact PQ.ok (w := .d (.bool false)) S3 (.bl false) q3
        | none => exact (show False from q2).elim
        | int i => exact (show False from q2).elim
        | str i => exact (show False from q2).elim
        | list i => exact (show False from q2).elim
        | tuple i => exact (show False from q2).elim
        | dict i => exact (show False from q2).elim
theorem de_chain {o o' : CmpOp} {op op' : D → D → Option D} {r r' : R2} (ho : OpR X (compareOp o) r) (hs : OpS (CvX X T) op r) (ho' : OpR X (compareOp o') r') (hs' : OpS (CvX X T) op' r') (ha : DE X T E a f) (hb : DE X T E b g) (hc : DE X T E c h)
    (hm : lastMarks [o, o'] [b, c] = false := by with_unfolding_all rfl) : DE X T E (.Compare a [o, o'] [b, c] pos) (eChain op op' f g h) :=
  pe_imp (pe_chain ho ho' ha hb hc hm) fun σ H Q q => chain_rd hs hs' q

theorem chain_test {C : Cv} {op op' : D → D → Option D} {r r' : R2} (hs : OpS C op r) (hs' : OpS C op' r') {σ : L2.St} {H : Hp} {Q : Bool → Hp → Prop} (q : tD C E (eChain op op' f g h) σ H fun v H1 => ∃ b, v = .bl b ∧ Q b H1) : tTest (tChain r r' (tD C E f) (tD C E g) (tD C E h)) σ H Q := chain_rd hs hs' q
theorem dt_chain {o o' : CmpOp} {op op' : D → D → Option D} {r r' : R2} (ho : OpR X (compareOp o) r) (hs : OpS (CvX X T) op r) (ho' : OpR X (compareOp o') r') (hs' : OpS (CvX X T) op' r') (ha : DE X T E a f) (hb : DE X T E b g) (hc : DE X T E c h)
    (hm : lastMarks [o, o'] [b, c] = false := by with_unfolding_all rfl) : DT X T E (.Compare a [o, o'] [b, c] pos) (eChain op op' f g h) :=
  pt_imp (pt_chain ho ho' ha hb hc hm) fun σ H Q q => chain_test hs hs' q

/-! ### and, or, not, if -/
theorem dt_val (ha : DE X T E a f) (he : ∀ whole, isTrue a X.env whole = (do let v ← whole; standAt a.pos; holding [v] (truthy v)) := by intro _; rfl) : DT X T E a f :=
  pt_imp (pt_val ha he) fun σ H Q q => tD_mono q fun v H' z => z
theorem dt_w (h : DW X T E a f) : DT X T E a f := PW.pt h
theorem de_one {o : BoolOp} (ha : DE X T E a f) : DE X T E (.BoolOp o [a] pos) f := pe_one ha
theorem dw_and1 (ha : DT X T E a f) : DW X T E (.BoolOp .And [a] pos) f := pw_and1 ha
theorem dw_or1 (ha : DT X T E a f) : DW X T E (.BoolOp .Or [a] pos) f := pw_or1 ha
variable {rest : List Expr}
theorem PQ.bl {C : Cv} {Q : VK} {H : Hp} {α : Al} {μ : Sto} {b : Bool} (S : Stor C H α μ) (h : PQ C E Q H α μ (.ok (.d (.bool b)) μ)) : Q (.bl b) H := PQ.ok (w := .d (.bool b)) S (.bl b) h
theorem de_and (ha : DE X T E a f) (hb : DE X T E (.BoolOp .And (b :: rest) pos) g) : DE X T E (.BoolOp .And (a :: b :: rest) pos) (eAnd f g) :=
  pe_imp (pe_and ha hb) fun σ H Q ⟨ρ, α, μ, S, sl, q⟩ => tD_test S sl q fun k H1 α1 μ1 st S1 sl1 q1 => ⟨k, rfl, by
    cases k with
    | true => rw [if_pos rfl]; exact ⟨ρ, α1, μ1, S1, sl1, q1⟩
    | false => rw [if_neg Bool.false_ne_true]; exact PQ.bl S1 q1⟩
theorem de_or (ha : DE X T E a f) (hb : DE X T E (.BoolOp .Or (b :: rest) pos) g) : DE X T E (.BoolOp .Or (a :: b :: rest) pos) (eOr f g) :=
  pe_imp (pe_or ha hb) fun σ H Q ⟨ρ, α, μ, S, sl, q⟩ => tD_test S sl q fun k H1 α1 μ1 st S1 sl1 q1 => ⟨k, rfl, by
    cases k with
    | true => rw [if_pos rfl]; exact PQ.bl S1 q1
    | false => rw [if_neg Bool.false_ne_true]; exact ⟨ρ, α1, μ1, S1, sl1, q1⟩⟩
theorem dw_and (ha : DT X T E a f) (hb : DW X T E (.BoolOp .And (b :: rest) pos) g) : DW X T E (.BoolOp .And (a :: b :: rest) pos) (eAnd f g) :=
  pw_imp (pw_and ha hb) fun σ H Q ⟨ρ, α, μ, S, sl, q⟩ => tD_test S sl q fun k H1 α1 μ1 st S1 sl1 q1 => ⟨k, rfl, by
    cases k with
    | true => rw [if_pos rfl]; exact ⟨ρ, α1, μ1, S1, sl1, q1⟩
    | false =>
      rw [if_neg Bool.false_ne_true]
      obtain ⟨b, e, q⟩ := PQ.bl S1 q1
      cases e
      exact q⟩
theorem dw_or (ha : DT X T E a f) (hb : DW X T E (.BoolOp .Or (b :: rest) pos) g) : DW X T E (.BoolOp .Or (a :: b :: rest) pos) (eOr f g) :=
  pw_imp (pw_or ha hb) fun σ H Q ⟨ρ, α, μ, S, sl, q⟩ => tD_test S sl q fun k H1 α1 μ1 st S1 sl1 q1 => ⟨k, rfl, by
    cases k with
    | true =>
      rw [if_pos rfl]
      obtain ⟨b, e, q⟩ := PQ.bl S1 q1
      cases e
      exact q
    | false => rw [if_neg Bool.false_ne_true]; exact ⟨ρ, α1, μ1, S1, sl1, q1⟩⟩
theorem de_not (ha : DE X T E a f) : DE X T E (.UnaryOp .Not a pos) (eNot f) :=
  pe_imp (pe_not ha) fun σ H Q ⟨ρ, α, μ, S, sl, q⟩ => tD_test S sl q fun k H1 α1 μ1 st S1 sl1 q1 => ⟨k, rfl, PQ.bl S1 q1⟩
theorem dt_not (ha : DT X T E a f) : DT X T E (.UnaryOp .Not a pos) (eNot f) :=
  pt_imp (pt_not ha) fun σ H Q ⟨ρ, α, μ, S, sl, q⟩ => tD_test S sl q fun k H1 α1 μ1 st S1 sl1 q1 => ⟨k, rfl, by
    obtain ⟨b, e, q⟩ := PQ.bl S1 q1
    cases e
    exact q⟩
theorem de_if (hc : DT X T E c f) (ha : DE X T E a g) (hb : DE X T E b h) : DE X T E (.IfExp c a b pos) (eIf f g h) :=
  pe_imp (pe_ifExp hc ha hb) fun σ H Q ⟨ρ, α, μ, S, sl, q⟩ => tD_test S sl q fun k H1 α1 μ1 st S1 sl1 q1 => ⟨k, rfl, by
    cases k with
    | true => rw [if_pos rfl] at q1 ⊢; exact ⟨ρ, α1, μ1, S1, sl1, q1⟩
    | false => rw [if_neg Bool.false_ne_true] at q1 ⊢; exact ⟨ρ, α1, μ1, S1, sl1, q1⟩⟩
theorem rp_isNon {C : Cv} {H : Hp} {α : Al} {μ : Sto} {v : V} {w : W} (r : RpW C H α μ v w) : isNonW w = decide (v = .non) := by
  cases w with
  | d d => cases r <;> rfl
  | m k => obtain ⟨a, _, rfl⟩ := r; rfl
  | f k => obtain ⟨a, _, rfl⟩ := r; rfl
  | x k => obtain rfl := r; rfl
theorem de_isN {j' : Nat} {p' : Pos} (ha : DE X T E a f) : DE X T E (.Compare a [.Is] [.Constant .none j' p'] pos) (eIsN f) :=
  pe_imp (pe_cmp (pc_isN ha)) fun σ H Q ⟨ρ, α, μ, S, sl, q⟩ => tD_bind S sl q fun v w H1 α1 μ1 st S1 sl1 r q1 => by
    have z := PQ.bl S1 q1
    rw [rp_isNon r] at z
    exact z
theorem de_notN {j' : Nat} {p' : Pos} (ha : DE X T E a f) : DE X T E (.Compare a [.IsNot] [.Constant .none j' p'] pos) (eNotN f) :=
  pe_imp (pe_cmp (pc_notN ha)) fun σ H Q ⟨ρ, α, μ, S, sl, q⟩ => tD_bind S sl q fun v w H1 α1 μ1 st S1 sl1 r q1 => by
    have z := PQ.bl S1 q1
    rw [rp_isNon r] at z
    exact z
theorem dt_isN {j' : Nat} {p' : Pos} (ha : DE X T E a f) : DT X T E (.Compare a [.Is] [.Constant .none j' p'] pos) (eIsN f) :=
  pt_imp (pt_cmp (pc_isN ha)) fun σ H Q ⟨ρ, α, μ, S, sl, q⟩ => tD_bind S sl q fun v w H1 α1 μ1 st S1 sl1 r q1 => by
    have z := PQ.bl S1 q1
    rw [rp_isNon r] at z
    exact z
theorem dt_notN {j' : Nat} {p' : Pos} (ha : DE X T E a f) : DT X T E (.Compare a [.IsNot] [.Constant .none j' p'] pos) (eNotN f) :=
  pt_imp (pt_cmp (pc_notN ha)) fun σ H Q ⟨ρ, α, μ, S, sl, q⟩ => tD_bind S sl q fun v w H1 α1 μ1 st S1 sl1 r q1 => by
    have z := PQ.bl S1 q1
    rw [rp_isNon r] at z
    exact z
end
end L3

set_option Elab.async false
set_option linter.all false
set_option maxRecDepth 100000
/-! The operators. -/
namespace L3
open PySem PySem.Spec PyProof.Rows L2 Mi

section
variable {C : Cv} {H : Hp} {α : Al} {μ : Sto} {M : Addr → Prop} {K : PySem.W.Frag}
theorem lim_line {n : Nat} (h : n ≤ LIM) : n ≤ sizeLine := Nat.le_trans h (by decide)
/-- a new list, a new tuple -/
theorem rp_newL {p : Addr} {xs : List V} {ds : List D} (S : Stor C H α μ) (n : H p = none) (r : RpAll C.K H (Own α μ) xs ds) : Same H (upd H p (.lst xs)) ∧ Rp C.K (upd H p (.lst xs)) (Own α μ) (.ref p) (.list ds) :=
  ⟨same_upd n, .lst (.inl upd_same) (S.own_ne n) (r.ext (Same.ext (same_upd n) _))⟩
theorem rp_newT {p : Addr} {xs : List V} {ds : List D} (n : H p = none) (r : RpAll K H M xs ds) : Same H (upd H p (.tup xs)) ∧ Rp K (upd H p (.tup xs)) M (.ref p) (.tuple ds) :=
  ⟨same_upd n, .tup (.inl (.inl upd_same)) (r.ext (Same.ext (same_upd n) _))⟩
end

section
variable {X : Cx} {T : List (Addr × Str)} {C : Cv}
/-! ### + -/
def rCatR : R2 := fun x y H Q => ∃ l b xs zs, x = .ref l ∧ y = .ref b ∧ Rd H l (.lst xs) ∧ Rd H b (.lst zs) ∧ xs.length + zs.length ≤ sizeLine ∧ ∀ p, H p = none → Q (.ref p) (upd H p (.lst (xs ++ zs)))
theorem op_catR : OpR X (binaryOp .Add) rCatR := by
  intro pins s σ H x y v u Q I rx ry h
  obtain ⟨l, b, xs, zs, rfl, rfl, hH, hB, hz, q⟩ := h
  cases rx
  cases ry
  obtain ⟨z, its, n, r, e⟩ := hH.ok I.hok
  obtain ⟨z2, its2, n2, r2, e2⟩ := hB.ok I.hok
  have hl := r.length
  have hl2 := r2.length
  refine PySem.P.add_list e e2 ?_ (by rw [List.size_toArray, List.size_toArray]; omega)
  have ea : its.toArray ++ its2.toArray = (its ++ its2).toArray := by simp
  rw [ea]
  exact ⟨.ref _, _, I.lnew (t' := s.toks) (r.append r2) (by rw [List.length_append]; omega), rfl, q _ I.fresh⟩
def rBI (g : Int → Int → Int) : R2 := fun x y H Q => ∃ b i, x = .bl b ∧ y = .int i ∧ Q (.int (g (bI b) i)) H
theorem op_addBI : OpR X (binaryOp .Add) (rBI (· + ·)) := by
  intro pins s σ H x y v u Q I rx ry h
  obtain ⟨b, i, rfl, rfl, q⟩ := h
  cases rx
  obtain ⟨t, rfl⟩ := ry
  exact PySem.IntBool.add_bool_int ⟨.int (bI b + i), H, I.tok _, ⟨_, rfl⟩, q⟩
theorem op_subBI : OpR X (binaryOp .Sub) (rBI (· - ·)) := by
  intro pins s σ H x y v u Q I rx ry h
  obtain ⟨b, i, rfl, rfl, q⟩ := h
  cases rx
  obtain ⟨t, rfl⟩ := ry
  exact PySem.IntBool.sub_bool_int ⟨.int (bI b - i), H, I.tok _, ⟨_, rfl⟩, q⟩
def rSubA : R2 := fun x y H Q => (rI0 (fun i j => V.int (i - j)) x y H Q) ∨ rBI (· - ·) x y H Q
theorem op_subA : OpR X (binaryOp .Sub) rSubA := op_sub.or op_subBI
theorem gives_neg_bool (a : Bool) : Gives (Builtin.«int.__neg__» ⟨[.bool a], []⟩) (.int (-(bI a))) := .of_eq rfl
theorem un_negB : UnR X (unaryOp .USub) (fun x H Q => ∃ b, x = .bl b ∧ Q (.int (-(bI b))) H) := by
  intro pins s σ H x v Q I rx h
  obtain ⟨b, rfl, q⟩ := h
  cases rx
  exact unaryOp_gives (op := .USub) rfl rfl F.slot_bool_neg F.entry_int_neg (F.args_int_neg_1 _) (gives_neg_bool b) ⟨.int _, H, I.tok _, ⟨_, rfl⟩, q⟩
def rNegA : V → Hp → VK → Prop := fun x H Q => (rU (fun i => .int (-i)) x H Q) ∨ ∃ b, x = .bl b ∧ Q (.int (-(bI b))) H
theorem un_negA : UnR X (unaryOp .USub) rNegA := fun pins s σ H x v Q I rx h => h.elim (un_neg pins s σ H x v Q I rx) (un_negB pins s σ H x v Q I rx)
def rAddA (K : PySem.W.Frag) : R2 := fun x y H Q => (rI0 (fun i j => V.int (i + j)) x y H Q) ∨ ((∃ i j, x = .str i ∧ y = .str j ∧ i.length + j.length ≤ sizeLine ∧ Q (.str (i ++ j)) H) ∨ (rCatR x y H Q ∨ (rCatA K x y H Q ∨ rBI (· + ·) x y H Q)))
theorem op_addA : OpR X (binaryOp .Add) (rAddA X.K) := op_add.or (op_add_str.or (op_catR.or (op_catA.or op_addBI)))
theorem os_add : OpS C dAdd (rAddA C.K) := by
  intro H α μ x y a b z Q S ra rb e q
  unfold dAdd at e
  split at e
  · cases e
    exact .inl ⟨_, _, ra.int, rb.int, q _ H (.refl H) (.int _)⟩
  · cases e
    exact .inr (.inr (.inr (.inr ⟨_, _, ra.bl, rb.int, q _ H (.refl H) (.int _)⟩)))
  · split at e
    · rename_i hl
      cases e
      exact .inr (.inl ⟨_, _, ra.str, rb.str, lim_line hl, q _ H (.refl H) (.str _)⟩)
    · cases e
  · split at e
    · rename_i hl
      cases e
      obtain ⟨p1, xs, rfl, h1, r1⟩ := ra.list
      obtain ⟨p2, ys, rfl, h2, r2⟩ := rb.list
      refine .inr (.inr (.inl ⟨p1, p2, xs, ys, rfl, rfl, h1, h2, by rw [r1.length, r2.length]; exact lim_line hl, fun p n => ?_⟩))
      obtain ⟨sm, rp⟩ := rp_newL S n (r1.append r2)
      exact q _ _ sm rp
    · cases e
  · split at e
    · rename_i hl
      cases e
      obtain ⟨p1, xs, rfl, h1, r1⟩ := ra.tuple
      obtain ⟨p2, ys, rfl, h2, r2⟩ := rb.tuple
      refine .inr (.inr (.inr (.inl ⟨p1, p2, xs, ys, rfl, rfl, h1, h2, by rw [r1.length, r2.length]; exact lim_line hl, fun e => ?_, fun _ e => ?_, fun _ _ p n => ?_⟩)))
      · subst e
        have : _ = ([] : List D) := List.eq_nil_of_length_eq_zero r1.length.symm
        subst this
        exact q _ H (.refl H) (.tup h2 r2)
      · subst e
        have : _ = ([] : List D) := List.eq_nil_of_length_eq_zero r2.length.symm
        subst this
        rw [List.append_nil] at q
        exact q _ H (.refl H) (.tup h1 r1)
      · obtain ⟨sm, rp⟩ := rp_newT n (r1.append r2)
        exact q _ _ sm rp
    · cases e
  · cases e
theorem os_sub : OpS C dSub rSubA := by
  intro H α μ x y a b z Q S ra rb e q
  unfold dSub at e
  split at e
  · cases e
    exact .inl ⟨_, _, ra.int, rb.int, q _ H (.refl H) (.int _)⟩
  · cases e
    exact .inr ⟨_, _, ra.bl, rb.int, q _ H (.refl H) (.int _)⟩
  · cases e
/-! ### * -/
def rRepR : R2 := fun x y H Q => ∃ l k xs, x = .ref l ∧ y = .int k ∧ Rd H l (.lst xs) ∧ -(2 ^ 63) ≤ k ∧ k < 2 ^ 63 ∧ xs.length * k.toNat ≤ sizeLine ∧
  ∀ p, H p = none → Q (.ref p) (upd H p (.lst (List.replicate k.toNat xs).flatten))
theorem abs_lt {i : Int} (h : i.natAbs < 2 ^ 64) : -(2 ^ 64) < i ∧ i < 2 ^ 64 := by omega
/-- ints alone -/
def dMulI : D → D → Option D
  | .int a, .int b => if mulOk a b then some (.int (a * b)) else none
  | _, _ => none
theorem os_mulI : OpS C dMulI (fun x y H Q => (rI CMul (fun i j => V.int (i * j)) x y H Q) ∨ (rI CMulW (fun i j => V.int (i * j)) x y H Q)) := by
  intro H α μ x y a b z Q S ra rb e q
  unfold dMulI at e
  split at e
  · split at e
    · rename_i hl
      cases e
      have q1 := q _ H (.refl H) (.int _)
      rcases hl with (h | h) | ⟨h1, h2⟩
      · exact .inl ⟨_, _, ra.int, rb.int, .inl (abs_lt h), q1⟩
      · exact .inl ⟨_, _, ra.int, rb.int, .inr (abs_lt h), q1⟩
      · exact .inr ⟨_, _, ra.int, rb.int, wide_mul h1 h2 (by decide) (by decide) (by decide), q1⟩
    · cases e
  · cases e
theorem op_mulI : OpR X (binaryOp .Mult) (fun x y H Q => (rI CMul (fun i j => V.int (i * j)) x y H Q) ∨ (rI CMulW (fun i j => V.int (i * j)) x y H Q)) := op_mul.or op_mulW
theorem RpAll.rep {K : PySem.W.Frag} {H : Hp} {M : Addr → Prop} {xs : List V} {ds : List D} (r : RpAll K H M xs ds) : ∀ n, RpAll K H M (List.replicate n xs).flatten (List.replicate n ds).flatten
  | 0 => .nil
  | n + 1 => by rw [List.replicate_succ, List.replicate_succ, List.flatten_cons, List.flatten_cons]; exact r.append (RpAll.rep r n)
theorem fold_rep (us : List Value) (m : Nat) : List.foldl (fun p q => p ++ q) #[] (List.replicate m us.toArray) = (List.replicate m us).flatten.toArray := by
  have h := foldl_rep us m []
  rw [List.nil_append] at h
  exact h
theorem op_repR : OpR X (binaryOp .Mult) rRepR := by
  intro pins s σ H x y v u Q I rx ry hh
  obtain ⟨p, m, vs, rfl, rfl, hR, lo, hi, hsz, q⟩ := hh
  cases rx
  obtain ⟨tk, rfl⟩ := ry
  obtain ⟨zz, us, nn, rv, ob⟩ := hR.ok I.hok
  have ul := rv.length
  have c1 : us.toArray.size * m.toNat ≤ sizeLine := by
    rw [List.size_toArray, ← ul]
    exact hsz
  have c2 : ¬ us.toArray.size * m.toNat > (2 ^ 63 - 1) / 8 := by
    have b : (sizeLine : Nat) ≤ (2 ^ 63 - 1) / 8 := by decide
    omega
  have c3 : ¬ (!Builtin.List.listFitsIndex m) = true := by
    rw [fitsIndex_both lo hi]
    decide
  have c4 : ¬ Builtin.List.listTooLong (us.toArray.size * m.toNat) = true := by
    rw [notLongL c1]
    decide
  have all : List.foldl (fun p q => p ++ q) #[] (List.replicate (if us.toArray.isEmpty = true then 0 else m.toNat) us.toArray) = (List.replicate m.toNat us).flatten.toArray := by
    rw [fold_rep]
    cases us with
    | nil => simp
    | cons a r' => rw [if_neg (by simp)]
  have low := AutoListH.list___mul___list_int_3 p us.toArray nn m tk c3 c2 c4
  have mid := int___rmul___int_list m tk p us.toArray nn
  refine wpAny_binaryOp_repeat_ref (T := "list") (U := "int")
    (by decide) ⟨_, ob, rfl⟩ (fun z => typeIs_int z m tk) noFill_list_mul F.fills_int_mul
    F.slot_int_rmul repeat_list F.slot_int_index.lookup ?_
  refine call_meets F.slot_int_rmul (typeIs_int s m tk)
    F.entry_int_rmul (F.args_int_rmul_2 _ _) mid ⟨ob, rfl, ⟨_, ob, rfl⟩, ?_⟩
  refine call_meets F.slot_list_mul ⟨_, ob, rfl⟩ F.entry_list_mul
    (F.args_list_mul_2 _ _) low ⟨ob, ?_⟩
  rw [all]
  have fits : ((List.replicate m.toNat vs).flatten).length ≤ sizeLine := by
    rw [PyProof.Rows.lm_len_rep_flat, Nat.mul_comm]
    exact hsz
  exact ⟨.ref _, _, I.lnew (t' := s.toks) (rv.rep m.toNat) fits, rfl, q _ I.fresh⟩
def repS (a : Str) (n : Int) : Str := ⟨(List.replicate n.toNat a.cps).foldl (· ++ ·) #[]⟩
def rRepS : R2 := fun x y H Q => ∃ a n, x = .str a ∧ y = .int n ∧ (2 ≤ n ∧ n ≤ 1000 ∧ 1 ≤ a.length ∧ a.length ≤ 1000) ∧ Q (.str (repS a n)) H
theorem op_repS : OpR X (binaryOp .Mult) rRepS := by
  intro pins s σ H x y v u Q I rx ry h
  obtain ⟨a, n, rfl, rfl, ⟨h1, h2, h3, h4⟩, q⟩ := h
  obtain ⟨t, rfl⟩ := rx
  obtain ⟨t', rfl⟩ := ry
  have hm : a.length * n.toNat ≤ 1000 * 1000 := Nat.mul_le_mul h4 (by omega)
  have hl : Builtin.Str.tooLong (a.length * n.toNat) = false := by
    have : ¬ a.length * n.toNat > 2 ^ 24 := by omega
    simpa [Builtin.Str.tooLong, sizeLine] using this
  have c0 : (n == 1 || a.length == 0) = false := by
    have e1 : (n == 1) = false := beq_eq_false_iff_ne.mpr (by omega)
    have e2 : (a.length == 0) = false := beq_eq_false_iff_ne.mpr (by omega)
    rw [e1, e2]; rfl
  refine PySem.P.mul_str ?_ (fun _ _ => ?_) (fun _ _ => hl) ?_
  · have e1 : ¬ n < -(2 ^ 63 : Int) := by omega
    have e2 : ¬ n ≥ 2 ^ 63 := by omega
    rw [decide_eq_false e1, decide_eq_false e2]; rfl
  · have : (1000 : Int) ≤ (2 ^ 63 - 1) / n := by
      refine (Int.le_ediv_iff_mul_le (by omega)).mpr ?_
      omega
    omega
  · rw [if_neg (by omega), c0]
    exact ⟨fits_reps hl, .str (repS a n), H, I.tok _, ⟨_, rfl⟩, q⟩
def rMulA (K : PySem.W.Frag) : R2 := fun x y H Q => (rI CMul (fun i j => V.int (i * j)) x y H Q) ∨ ((rI CMulW (fun i j => V.int (i * j)) x y H Q) ∨ (rRepR x y H Q ∨ (rRepT K x y H Q ∨ rRepS x y H Q)))
theorem op_mulA : OpR X (binaryOp .Mult) (rMulA X.K) := op_mul.or (op_mulW.or (op_repR.or (op_repT.or op_repS)))
theorem os_mul : OpS C dMul (rMulA C.K) := by
  intro H α μ x y a b z Q S ra rb e q
  unfold dMul at e
  split at e
  · split at e
    · rename_i hl
      cases e
      have q1 := q _ H (.refl H) (.int _)
      rcases hl with (h | h) | ⟨h1, h2⟩
      · exact .inl ⟨_, _, ra.int, rb.int, .inl (abs_lt h), q1⟩
      · exact .inl ⟨_, _, ra.int, rb.int, .inr (abs_lt h), q1⟩
      · exact .inr (.inl ⟨_, _, ra.int, rb.int, wide_mul h1 h2 (by decide) (by decide) (by decide), q1⟩)
    · cases e
  · rename_i l n
    split at e
    · rename_i hl
      obtain ⟨l1, l2, l3⟩ := hl
      cases e
      obtain ⟨p1, xs, rfl, h1, r1⟩ := ra.list
      have hb := rb.int
      subst hb
      have e1 := r1.length
      have hm : xs.length * n.toNat ≤ sizeLine := Nat.le_trans (Nat.mul_le_mul (show xs.length ≤ 1000 by omega) (show n.toNat ≤ 1000 by omega)) (by decide)
      refine .inr (.inr (.inl ⟨p1, n, xs, rfl, rfl, h1, by omega, by omega, hm, fun p np => ?_⟩))
      obtain ⟨sm, rp⟩ := rp_newL S np (r1.rep n.toNat)
      exact q _ _ sm rp
    · cases e
  · rename_i l n
    split at e
    · rename_i hl
      obtain ⟨l1, l2, l3, l4⟩ := hl
      cases e
      obtain ⟨p1, xs, rfl, h1, r1⟩ := ra.tuple
      have hb := rb.int
      subst hb
      have e1 := r1.length
      refine .inr (.inr (.inr (.inl ⟨p1, n, xs, rfl, rfl, h1, fun z => l4 ?_, l1, l2, by omega, fun p np => ?_⟩)))
      · subst z
        exact List.eq_nil_of_length_eq_zero e1.symm
      · obtain ⟨sm, rp⟩ := rp_newT np (r1.rep n.toNat)
        exact q _ _ sm rp
    · cases e
  · split at e
    · rename_i hl
      cases e
      exact .inr (.inr (.inr (.inr ⟨_, _, ra.str, rb.int, hl, q _ H (.refl H) (.str _)⟩)))
    · cases e
  · cases e
def CDivA (_ j : Int) : Prop := j ≠ 0 ∧ j.natAbs.log2 < 9000
theorem op_fdivA {X : Cx} : OpR X (binaryOp .FloorDiv) (rI CDivA fun i j => .int (i.fdiv j)) := opI fun _ _ _ _ _ _ _ hc q => floordiv_int hc.1 q (.inl (PyProof.noPylong_of_log2 hc.2))
theorem log_of {j : Int} (h0 : j ≠ 0) (h : j.natAbs < 2 ^ 1000) : CDivA j j := ⟨h0, Nat.lt_of_lt_of_le (PySem.Flt.log2_lt_of (k := 1000) (by decide) h) (by decide)⟩
theorem os_div : OpS C dDiv (rI CDivA fun i j => .int (i.fdiv j)) := by
  intro H α μ x y a b z Q S ra rb e q
  unfold dDiv at e
  split at e
  · rename_i i j
    split at e
    · rename_i hl
      cases e
      have h1 := hl.1
      have h2 := hl.2
      refine ⟨_, _, ra.int, rb.int, log_of (by omega) (by omega), ?_⟩
      show Q (.int (i.fdiv j)) H
      rw [Int.fdiv_eq_ediv_of_nonneg i (by omega)]
      exact q _ H (.refl H) (.int _)
    · split at e
      · rename_i hl
        cases e
        have h1 := hl.1
        exact ⟨_, _, ra.int, rb.int, log_of (by omega) hl.2, q _ H (.refl H) (.int _)⟩
      · cases e
  · cases e
theorem os_mod : OpS C dMod (rI (fun _ j => j ≠ 0) fun i j => .int (i.fmod j)) := by
  intro H α μ x y a b z Q S ra rb e q
  unfold dMod at e
  split at e
  · rename_i i j
    split at e
    · rename_i hl
      cases e
      refine ⟨_, _, ra.int, rb.int, by omega, ?_⟩
      show Q (.int (i.fmod j)) H
      rw [Int.fmod_eq_emod_of_nonneg i (by omega)]
      exact q _ H (.refl H) (.int _)
    · split at e
      · rename_i hl
        cases e
        exact ⟨_, _, ra.int, rb.int, by omega, q _ H (.refl H) (.int _)⟩
      · cases e
  · cases e
theorem os_pow : OpS C dPow (rI CPow fun i j => .int (i ^ j.toNat)) := by
  intro H α μ x y a b z Q S ra rb e q
  unfold dPow at e
  split at e
  · split at e
    · rename_i hl
      cases e
      exact ⟨_, _, ra.int, rb.int, ⟨hl.1, Int.le_trans hl.2.1 (by decide), hl.2.2⟩, q _ H (.refl H) (.int _)⟩
    · cases e
  · cases e
theorem os_neg : UnS C dNeg rNegA := by
  intro H α μ x a z Q S ra e q
  unfold dNeg at e
  split at e
  · cases e
    exact .inl ⟨_, ra.int, q _ H (.refl H) (.int _)⟩
  · cases e
    exact .inr ⟨_, ra.bl, q _ H (.refl H) (.int _)⟩
  · cases e
theorem os_cmpI {p : Int → Int → Bool} : OpS C (cmpI p) (rI0 fun i j => .bl (p i j)) := by
  intro H α μ x y a b z Q S ra rb e q
  unfold cmpI at e
  split at e
  · cases e
    exact ⟨_, _, ra.int, rb.int, q _ H (.refl H) (.bl _)⟩
  · cases e
theorem os_eq : OpS C dEq (rEqD C.K) := by
  intro H α μ x y a b z Q S ra rb e q
  unfold dEq at e
  split at e
  · rename_i h
    cases e
    exact ⟨_, _, ra.dp, rb.dp, h.1, h.2, q _ H (.refl H) (.bl _)⟩
  · cases e
theorem os_ne : OpS C dNe (rNeD C.K) := by
  intro H α μ x y a b z Q S ra rb e q
  unfold dNe at e
  split at e
  · rename_i h
    cases e
    exact ⟨_, _, ra.dp, rb.dp, h.1, h.2, q _ H (.refl H) (.bl _)⟩
  · cases e
/-! ### an item -/
theorem os_ix : OpS C dIx (fun x y H Q => rIxL C.K x y H Q ∨ rIxT C.K x y H Q) := by
  intro H α μ x y a b z Q S ra rb e q
  have key : ∀ {n : Nat} {i : Int}, ixI n i = ixN n i := rfl
  unfold dIx at e
  split at e
  · rename_i l i
    obtain ⟨p1, xs, rfl, h1, r1⟩ := ra.list
    have hb := rb.int
    subst hb
    cases e1 : ixI l.length i with
    | none => rw [e1] at e; cases e
    | some k =>
      rw [e1] at e
      obtain ⟨v, h2, h3⟩ := r1.get (show l[k]? = some z from e)
      refine .inl ⟨p1, xs, i, v, rfl, rfl, .inl h1, ?_, q _ H (.refl H) h3⟩
      show (ixN xs.length i).bind (fun j => xs[j]?) = some v
      rw [r1.length, ← key, e1]
      exact h2
  · rename_i l i
    obtain ⟨p1, xs, rfl, h1, r1⟩ := ra.tuple
    have hb := rb.int
    subst hb
    cases e1 : ixI l.length i with
    | none => rw [e1] at e; cases e
    | some k =>
      rw [e1] at e
      obtain ⟨v, h2, h3⟩ := r1.get (show l[k]? = some z from e)
      refine .inr ⟨p1, xs, i, v, rfl, rfl, h1, ?_, q _ H (.refl H) h3⟩
      show (ixN xs.length i).bind (fun j => xs[j]?) = some v
      rw [r1.length, ← key, e1]
      exact h2
  · cases e
/-! ### a slice -/
theorem six_eq (n d : Nat) (o : Option Int) : six n d o = HT.sIx n d o := by cases o <;> rfl
theorem RpAll.cut {K : PySem.W.Frag} {H : Hp} {M : Addr → Prop} {xs : List V} {ds : List D} (r : RpAll K H M xs ds) (lo hi : Option Int) : RpAll K H M (cutV xs lo hi) (cutL ds lo hi) := by
  unfold cutV cutL
  rw [six_eq, six_eq, r.length]
  exact (r.drop _).take _
theorem cut_all {xs : List V} {lo hi : Option Int} (h : HT.sIx xs.length 0 lo = 0 ∧ HT.sIx xs.length xs.length hi = xs.length) : cutV xs lo hi = xs := by
  unfold cutV
  rw [h.1, h.2]
  simp
theorem os_cut (S : Stor C H α μ) {x : V} {a z : D} {lo hi : Option Int} {Q : VK} (ra : RpT C.K H (Own α μ) x a) (e : dCut a lo hi = some z) (q : ∀ v H', Same H H' → Rp C.K H' (Own α μ) v z → Q v H') : (rSlL C.K x lo hi H Q ∨ rSlA C.K x lo hi H Q) ∨ rSlS x lo hi H Q := by
  unfold dCut at e
  split at e
  · split at e
    · rename_i hl
      cases e
      have hx := ra.str
      subst hx
      exact .inr ⟨_, rfl, lim_line hl, q _ H (.refl H) (.str _)⟩
    · cases e
  · cases e
    obtain ⟨p1, xs, rfl, h1, r1⟩ := ra.list
    refine .inl (.inl ⟨p1, xs, rfl, .inl h1, fun p np => ?_⟩)
    obtain ⟨sm, rp⟩ := rp_newL S np (r1.cut _ _)
    exact q _ _ sm rp
  · cases e
    obtain ⟨p1, xs, rfl, h1, r1⟩ := ra.tuple
    refine .inl (.inr ⟨p1, xs, rfl, h1, fun hw => ?_, fun hw p np => ?_⟩)
    · refine q _ H (.refl H) (.tup h1 ?_)
      have := r1.cut lo hi
      rw [cut_all hw] at this
      exact this
    · obtain ⟨sm, rp⟩ := rp_newT np (r1.cut _ _)
      exact q _ _ sm rp
  · cases e
end
/-! ### is True -/
section
variable {X : Cx} {C : Cv}
def rIsB (g : Bool → Bool → Bool) : R2 := fun x y H Q => ∃ i j, x = .bl i ∧ y = .bl j ∧ Q (.bl (g i j)) H
theorem op_isB : OpR X (compareOp .Is) (rIsB fun i j => i == j) := by
  intro pins s σ H x y v u Q I rx ry h
  obtain ⟨i, j, rfl, rfl, q⟩ := h
  cases rx
  cases ry
  exact is_bool ⟨.bl (i == j), H, I, rfl, q⟩
theorem op_isNotB : OpR X (compareOp .IsNot) (rIsB fun i j => i != j) := by
  intro pins s σ H x y v u Q I rx ry h
  obtain ⟨i, j, rfl, rfl, q⟩ := h
  cases rx
  cases ry
  exact isnot_bool ⟨.bl (i != j), H, I, rfl, q⟩
theorem os_isB : OpS C dIsB (rIsB fun i j => i == j) := by
  intro H α μ x y a b z Q S ra rb e q
  unfold dIsB at e
  split at e
  · cases e
    exact ⟨_, _, ra.bl, rb.bl, q _ H (.refl H) (.bl _)⟩
  · cases e
theorem os_isNotB : OpS C dIsNotB (rIsB fun i j => i != j) := by
  intro H α μ x y a b z Q S ra rb e q
  unfold dIsNotB at e
  split at e
  · cases e
    exact ⟨_, _, ra.bl, rb.bl, q _ H (.refl H) (.bl _)⟩
  · cases e
end
end L3

set_option Elab.async false
set_option linter.all false
set_option maxRecDepth 100000
/-! Arguments, displays, subscripts, slices, calls of builtins and of defs. -/
namespace L3
open PySem PySem.Spec PyProof.Rows L2 Mi

section
variable {C : Cv} {E : XK}
/-! ### membership -/
theorem Rp.flat {K : PySem.W.Frag} {H : Hp} {M : Addr → Prop} {v : V} {d : D} (r : Rp K H M v d) (h : flatD d = true) : flatV v = true := by
  cases r <;> first | rfl | cases h
theorem Rp.eqv {K : PySem.W.Frag} {H : Hp} {M : Addr → Prop} {v u : V} {d e : D} (r : Rp K H M v d) (q : Rp K H M u e) (h : flatD d = true) (h' : flatD e = true) : eqV v u = PyData.eqv d e := by
  cases r with
  | lst _ _ _ => cases h
  | tup _ _ => cases h
  | non => cases q <;> first | rfl | cases h'
  | bl b => cases q <;> first | rfl | cases h'
  | int b => cases q <;> first | rfl | cases h'
  | str b => cases q <;> first | rfl | cases h'

theorem RpAll.flat {K : PySem.W.Frag} {H : Hp} {M : Addr → Prop} : ∀ {vs : List V} {ds : List D}, RpAll K H M vs ds → ds.all flatD = true → vs.all flatV = true
  | _, _, .nil, _ => rfl
  | _, _, .cons r t, h => by
    rw [List.all_cons, Bool.and_eq_true] at h
    rw [List.all_cons, r.flat h.1, RpAll.flat t h.2]
    rfl
theorem RpAll.inV {K : PySem.W.Frag} {H : Hp} {M : Addr → Prop} {u : V} {e : D} (q : Rp K H M u e) (he : flatD e = true) : ∀ {vs : List V} {ds : List D}, RpAll K H M vs ds → ds.all flatD = true → L2.inV u vs = ds.any fun y => PyData.eqv y e
  | _, _, .nil, _ => rfl
  | _, _, .cons r t, h => by
    rw [List.all_cons, Bool.and_eq_true] at h
    have ih := RpAll.inV q he t h.2
    unfold L2.inV at ih ⊢
    rw [List.any_cons, List.any_cons, r.eqv q h.1 he, ih]
theorem RpT.flat {K : PySem.W.Frag} {H : Hp} {M : Addr → Prop} {v : V} {d : D} (r : RpT K H M v d) (h : flatD d = true) : Rp K H M v d := by
  rcases r with r | ⟨a, xs, ds, rfl, rfl, _⟩
  · exact r
  · cases h
def rInA (K : PySem.W.Frag) (neg : Bool) : R2 := fun x y H Q => rIn K neg x y H Q ∨ (∃ (c : Nat) (z : Str), x = .str ⟨#[c]⟩ ∧ y = .str z ∧ Q (.bl (if neg then !decide (c ∈ z.cps.toList) else decide (c ∈ z.cps.toList))) H)
theorem op_inA {X : Cx} : OpR X (compareOp .In) (rInA X.K false) := op_in_seq.or op_in_sign
theorem op_notInA {X : Cx} : OpR X (compareOp .NotIn) (rInA X.K true) := op_notIn_seq.or op_notIn_sign
theorem str1 {x : Str} (h : x.cps.size = 1) : x = ⟨#[x.cps.getD 0 0]⟩ := by
  obtain ⟨⟨l⟩⟩ := x
  match l, h with
  | [a], _ => rfl
theorem in_core {neg : Bool} {H : Hp} {α : Al} {μ : Sto} {x y : V} {a b : D} {k : Bool} {Q : VK} (S : Stor C H α μ) (ra : RpT C.K H (Own α μ) x a) (rb : RpT C.K H (Own α μ) y b) (e : dIn a b = some (.bool k)) (q : Q (.bl (if neg then !k else k)) H) : rInA C.K neg x y H Q := by
  unfold dIn at e
  split at e
  · rename_i l
    split at e
    · rename_i h
      injection e with e
      injection e with e
      obtain ⟨p1, xs, rfl, h1, r1⟩ := rb.list
      have r0 := ra.flat h.1
      exact .inl ⟨p1, xs, rfl, .inl (.inl h1), r0.flat h.1, r1.flat h.2, by rw [r1.inV r0 h.1 h.2, e]; exact q⟩
    · cases e
  · rename_i l
    split at e
    · rename_i h
      injection e with e
      injection e with e
      obtain ⟨p1, xs, rfl, h1, r1⟩ := rb.tuple
      have r0 := ra.flat h.1
      exact .inl ⟨p1, xs, rfl, .inr h1, r0.flat h.1, r1.flat h.2, by rw [r1.inV r0 h.1 h.2, e]; exact q⟩
    · cases e
  · split at e
    · rename_i h
      injection e with e
      injection e with e
      have h1 := ra.str
      have h2 := rb.str
      subst h1 h2
      exact .inr ⟨_, _, by rw [← str1 h], rfl, by rw [e]; exact q⟩
    · cases e
  · cases e
theorem dIn_bool {a b z : D} (e : dIn a b = some z) : ∃ k, z = .bool k := by
  unfold dIn at e
  split at e
  · split at e
    · cases e; exact ⟨_, rfl⟩
    · cases e
  · split at e
    · cases e; exact ⟨_, rfl⟩
    · cases e
  · split at e
    · cases e; exact ⟨_, rfl⟩
    · cases e
  · cases e
theorem os_in : OpS C dIn (rInA C.K false) := by
  intro H α μ x y a b z Q S ra rb e q
  obtain ⟨k, rfl⟩ := dIn_bool e
  exact in_core S ra rb e (q _ H (.refl H) (.bl k))
theorem os_notIn : OpS C dNotIn (rInA C.K true) := by
  intro H α μ x y a b z Q S ra rb e q
  unfold dNotIn at e
  split at e
  · rename_i k e1
    cases e
    exact in_core S ra rb e1 (q _ H (.refl H) (.bl (!k)))
  · cases e

/-! ### argument lists -/
def PQs (C : Cv) (E : XK) (Q : List V → Hp → Prop) (H : Hp) (α : Al) (μ : Sto) : R (List W) → Prop
  | .ok ws μ' => ∀ vs H' α', Step H α μ H' α' μ' → Stor C H' α' μ' → RpWs C H' α' μ' vs ws → Q vs H'
  | .er x μ' => ∀ cls d H' α', Step H α μ H' α' μ' → Stor C H' α' μ' → RpX C H' cls d x → E cls d H'
  | .no => False
def tDs (C : Cv) (E : XK) (a : AF) : TA := fun σ H Q => ∃ ρ α μ, Stor C H α μ ∧ Sl C H α μ σ ρ ∧ PQs C E Q H α μ (a ρ μ)
theorem PQs.step {Q : List V → Hp → Prop} {H H1 : Hp} {α α1 : Al} {μ μ1 : Sto} {r : R (List W)} (h : PQs C E Q H α μ r) (st : Step H α μ H1 α1 μ1) : PQs C E Q H1 α1 μ1 r := by
  cases r with
  | ok w μ' => exact fun v H' α' s S q => h v H' α' (st.trans s) S q
  | er x μ' => exact fun cls d H' α' s S q => h cls d H' α' (st.trans s) S q
  | no => exact h
theorem tD_binds {Q' : VK} {Q : List V → Hp → Prop} {H : Hp} {α : Al} {μ : Sto} {σ : L2.St} {ρ : Mi.Env} {f : EF} {k : W → Sto → R (List W)} (S : Stor C H α μ) (sl : Sl C H α μ σ ρ) (h : PQs C E Q H α μ ((f ρ μ).bind k))
    (cont : ∀ v w H1 α1 μ1, Step H α μ H1 α1 μ1 → Stor C H1 α1 μ1 → Sl C H1 α1 μ1 σ ρ → RpW C H1 α1 μ1 v w → PQs C E Q H1 α1 μ1 (k w μ1) → Q' v H1) : tD C E f σ H Q' := by
  refine ⟨ρ, α, μ, S, sl, ?_⟩
  cases e : f ρ μ with
  | ok w μ1 =>
    rw [e] at h
    exact fun v H1 α1 st S1 r => cont v w H1 α1 μ1 st S1 (sl.step st) r (PQs.step (r := k w μ1) h st)
  | er x μ1 => rw [e] at h; exact h
  | no => rw [e] at h; exact (show False from h).elim
theorem tDs_binds {Q Q' : List V → Hp → Prop} {H : Hp} {α : Al} {μ : Sto} {σ : L2.St} {ρ : Mi.Env} {f : AF} {k : List W → Sto → R (List W)} (S : Stor C H α μ) (sl : Sl C H α μ σ ρ) (h : PQs C E Q H α μ ((f ρ μ).bind k))
    (cont : ∀ v w H1 α1 μ1, Step H α μ H1 α1 μ1 → Stor C H1 α1 μ1 → Sl C H1 α1 μ1 σ ρ → RpWs C H1 α1 μ1 v w → PQs C E Q H1 α1 μ1 (k w μ1) → Q' v H1) : tDs C E f σ H Q' := by
  refine ⟨ρ, α, μ, S, sl, ?_⟩
  cases e : f ρ μ with
  | ok w μ1 =>
    rw [e] at h
    exact fun v H1 α1 st S1 r => cont v w H1 α1 μ1 st S1 (sl.step st) r (PQs.step (r := k w μ1) h st)
  | er x μ1 => rw [e] at h; exact h
  | no => rw [e] at h; exact (show False from h).elim
theorem tDs_bind {Q : VK} {Q' : List V → Hp → Prop} {H : Hp} {α : Al} {μ : Sto} {σ : L2.St} {ρ : Mi.Env} {f : AF} {k : List W → Sto → R W} (S : Stor C H α μ) (sl : Sl C H α μ σ ρ) (h : PQ C E Q H α μ ((f ρ μ).bind k))
    (cont : ∀ v w H1 α1 μ1, Step H α μ H1 α1 μ1 → Stor C H1 α1 μ1 → Sl C H1 α1 μ1 σ ρ → RpWs C H1 α1 μ1 v w → PQ C E Q H1 α1 μ1 (k w μ1) → Q' v H1) : tDs C E f σ H Q' := by
  refine ⟨ρ, α, μ, S, sl, ?_⟩
  cases e : f ρ μ with
  | ok w μ1 =>
    rw [e] at h
    exact fun v H1 α1 st S1 r => cont v w H1 α1 μ1 st S1 (sl.step st) r (PQ.step (r := k w μ1) h st)
  | er x μ1 => rw [e] at h; exact h
  | no => rw [e] at h; exact (show False from h).elim
theorem RpWs.asDs {H : Hp} {α : Al} {μ : Sto} : ∀ {vs : List V} {ws : List W} {ds : List D}, RpWs C H α μ vs ws → Mi.asDs ws = some ds → RpAll C.K H (Own α μ) vs ds
  | _, _, _, .nil, e => by cases e; exact .nil
  | _, .d d :: ws, _, .cons r t, e => by
    rw [asDs_cons] at e
    cases e1 : Mi.asDs ws with
    | none => rw [e1] at e; cases e
    | some ds =>
      rw [e1] at e
      cases e
      exact .cons r (RpWs.asDs t e1)
  | _, .m k :: ws, _, .cons r t, e => by cases e
  | _, .f k :: ws, _, .cons r t, e => by cases e
  | _, .x k :: ws, _, .cons r t, e => by cases e
inductive RpTs (C : Cv) (H : Hp) (M : Addr → Prop) : List V → List D → Prop
  | nil : RpTs C H M [] []
  | cons {v : V} {vs : List V} {d : D} {ds : List D} : RpT C.K H M v d → RpTs C H M vs ds → RpTs C H M (v :: vs) (d :: ds)
theorem RpWs.views {H : Hp} {α : Al} {μ : Sto} (S : Stor C H α μ) : ∀ {vs : List V} {ws : List W} {ds : List D}, RpWs C H α μ vs ws → Mi.views μ ws = some ds → RpTs C H (Own α μ) vs ds
  | _, _, _, .nil, e => by cases e; exact .nil
  | _, w :: ws, _, .cons r t, e => by
    unfold Mi.views at e
    cases e1 : Mi.view μ w with
    | none => rw [e1] at e; cases e
    | some d =>
      rw [e1] at e
      cases e2 : Mi.views μ ws with
      | none => simp [e2] at e
      | some ds =>
        simp only [e2, Option.bind_some, Option.map_some, Option.some.injEq] at e
        subst e
        exact .cons (r.view S e1) (RpWs.views S t e2)
end

section
variable {X : Cx} {T : List (Addr × Str)} {E : XK} {j : Nat} {pos : Pos} {a b c : Expr} {f g h : EF} {es : List Expr} {r : AF}
structure DA (X : Cx) (T : List (Addr × Str)) (E : XK) (es : List Expr) (a : AF) : Prop where
  pa : PA X es (tDs (CvX X T) E a)
  len : ∀ ρ μ ws μ', a ρ μ = .ok ws μ' → ws.length = es.length
theorem pa_imp {t t' : TA} (h : PA X es t) (i : ∀ σ H Q, t' σ H Q → t σ H Q) : PA X es t' := ⟨fun ps pins s σ H Q I q => h.run ps pins s σ H Q I (i _ _ _ q)⟩
theorem da_nil : DA X T E [] aNil :=
  ⟨pa_imp pa_nil fun σ H Q ⟨ρ, α, μ, S, sl, q⟩ => q [] H α (.refl _ _ _) S .nil, fun ρ μ ws μ' e => by cases e; rfl⟩
theorem da_cons (ha : DE X T E a f) (hr : DA X T E es r) (hs : starEach (a :: es) X.env = (false, eval a X.env) :: starEach es X.env := by rfl) : DA X T E (a :: es) (aCons f r) := by
  refine ⟨pa_imp (pa_cons ha hr.pa hs) fun σ H Q ⟨ρ, α, μ, S, sl, q⟩ => ?_, fun ρ μ ws μ' e => ?_⟩
  · refine tD_binds S sl q fun v w H1 α1 μ1 st1 S1 sl1 r1 q1 => ?_
    exact tDs_binds S1 sl1 q1 fun vs ws H2 α2 μ2 st2 S2 sl2 r2 q2 => q2 (v :: vs) H2 α2 (.refl _ _ _) S2 (.cons (r1.step st2) r2)
  · unfold aCons at e
    cases e1 : f ρ μ with
    | ok w μ1 =>
      rw [e1] at e
      cases e2 : r ρ μ1 with
      | ok ws2 μ2 =>
        rw [R.bind_ok, e2, R.bind_ok] at e
        cases e
        exact congrArg (· + 1) (hr.len ρ μ1 ws2 _ e2)
      | er x μ2 => rw [R.bind_ok, e2] at e; cases e
      | no => rw [R.bind_ok, e2] at e; cases e
    | er x μ1 => rw [e1] at e; cases e
    | no => rw [e1] at e; cases e
theorem DA.read (hr : DA X T E es r) {C : Cv} {Q : VK} {H : Hp} {α : Al} {μ : Sto} {σ : L2.St} {ρ : Mi.Env} {k : List W → Sto → R W} {Q' : List V → Hp → Prop} (S : Stor (CvX X T) H α μ) (sl : Sl (CvX X T) H α μ σ ρ) (q : PQ (CvX X T) E Q H α μ ((r ρ μ).bind k))
    (cont : ∀ v w H1 α1 μ1, Step H α μ H1 α1 μ1 → Stor (CvX X T) H1 α1 μ1 → Sl (CvX X T) H1 α1 μ1 σ ρ → RpWs (CvX X T) H1 α1 μ1 v w → w.length = es.length → PQ (CvX X T) E Q H1 α1 μ1 (k w μ1) → Q' v H1) : tDs (CvX X T) E r σ H Q' := by
  refine ⟨ρ, α, μ, S, sl, ?_⟩
  cases e : r ρ μ with
  | ok w μ1 =>
    rw [e] at q
    exact fun v H1 α1 st S1 rr => cont v w H1 α1 μ1 st S1 (sl.step st) rr (hr.len _ _ _ _ e) (PQ.step (r := k w μ1) q st)
  | er x μ1 => rw [e] at q; exact q
  | no => rw [e] at q; exact (show False from q).elim
/-! ### displays -/
theorem de_tup {k : Nat} (hr : DA X T E es r) (hl : es.length ≤ 1000 := by decide) : DE X T E (.Tuple es k pos) (eTup r) :=
  pe_imp (pe_tup hr.pa) fun σ H Q ⟨ρ, α, μ, S, sl, q⟩ => hr.read (C := CvX X T) S sl q fun vs ws H1 α1 μ1 st S1 sl1 rs ln q1 => by
    obtain ⟨z, e, q2⟩ := PQ.ofO q1
    cases e1 : Mi.asDs ws with
    | none => rw [e1] at e; cases e
    | some ds =>
      rw [e1] at e
      cases e
      refine ⟨by rw [rs.length, ln]; exact Nat.le_trans hl (by decide), fun p np => ?_⟩
      obtain ⟨sm, rp⟩ := rp_newT np (rs.asDs e1)
      exact q2 _ _ _ (Same.step S1 sm) (S1.same sm) rp
theorem de_lst (hr : DA X T E es r) (hl : es.length ≤ 1000 := by decide) : DE X T E (.List es pos) (eLst r) :=
  pe_imp (pe_lst hr.pa) fun σ H Q ⟨ρ, α, μ, S, sl, q⟩ => hr.read (C := CvX X T) S sl q fun vs ws H1 α1 μ1 st S1 sl1 rs ln q1 => by
    obtain ⟨z, e, q2⟩ := PQ.ofO q1
    cases e1 : Mi.asDs ws with
    | none => rw [e1] at e; cases e
    | some ds =>
      rw [e1] at e
      cases e
      refine ⟨by rw [rs.length, ln]; exact Nat.le_trans hl (by decide), fun p np => ?_⟩
      obtain ⟨sm, rp⟩ := rp_newL S1 np (rs.asDs e1)
      exact q2 _ _ _ (Same.step S1 sm) (S1.same sm) rp
end
section
variable {C : Cv} {H : Hp} {α : Al} {μ : Sto}
/-- what was not tracked becomes one's own -/
def Al.push (α : Al) (p : Addr) : Al := ⟨α.own ++ [p], α.hid⟩
theorem own_push {p : Addr} {c : Cell} {a : Addr} (hl : α.own.length = μ.length) : Own (α.push p) (μ ++ [some c]) a ↔ Own α μ a ∨ a = p := by
  constructor
  · rintro (⟨k, d, h1, h2⟩ | h)
    · have h1 : (α.own ++ [p])[k]? = some a := h1
      by_cases hk : k < α.own.length
      · rw [List.getElem?_append_left hk] at h1
        rw [List.getElem?_append_left (by omega)] at h2
        exact .inl (.inl ⟨k, d, h1, h2⟩)
      · rw [List.getElem?_append_right (by omega)] at h1
        by_cases hz : k - α.own.length = 0
        · rw [hz] at h1
          exact .inr (Option.some.inj h1).symm
        · rw [List.getElem?_eq_none (by simp; omega)] at h1
          cases h1
    · exact .inl (.inr h)
  · rintro ((⟨k, d, h1, h2⟩ | h) | rfl)
    · have hk : k < α.own.length := (List.getElem?_eq_some_iff.mp h1).1
      have hk2 : k < μ.length := (List.getElem?_eq_some_iff.mp h2).1
      exact .inl ⟨k, d, by show (α.own ++ [p])[k]? = _; rw [List.getElem?_append_left hk]; exact h1, by rw [List.getElem?_append_left hk2]; exact h2⟩
    · exact .inr h
    · exact .inl ⟨α.own.length, c, by show (α.own ++ [a])[_]? = _; rw [List.getElem?_append_right (Nat.le_refl _)]; simp, by rw [hl, List.getElem?_append_right (Nat.le_refl _)]; simp⟩
theorem step_push (S : Stor C H α μ) {p : Addr} {xs : List V} {ds : List D} (np : H p = none) : Step H α μ (upd H p (.lst xs)) (α.push p) (μ ++ [some (.lst ds)]) := by
  refine ⟨⟨fun b o h n _ => ⟨same_upd np b o h, fun z => ?_⟩, fun b xs h => same_upd np b _ h, fun b o u h => same_upd np b _ h⟩, fun k a h => ?_, rfl, (Same.step S (same_upd np)).keep⟩
  · rcases (own_push S.len).mp z with z | z
    · exact n z
    · rw [z, np] at h; cases h
  · show (α.own ++ [p])[k]? = _
    rw [List.getElem?_append_left (List.getElem?_eq_some_iff.mp h).1]
    exact h
theorem stor_push (S : Stor C H α μ) {p : Addr} {xs : List V} {ds : List D} (np : H p = none) (r : RpAll C.K H (Own α μ) xs ds) : Stor C (upd H p (.lst xs)) (α.push p) (μ ++ [some (.lst ds)]) := by
  have st := step_push (xs := xs) (ds := ds) S np
  have fresh : ∀ a ∈ α.own ++ α.hid, a ≠ p := fun a ha e => by
    obtain ⟨o, q, _⟩ := S.there a ha
    rw [e, np] at q; cases q
  refine ⟨by simp [Al.push, S.len], ?_, fun a h => ?_, fun k c h => ?_, S.tabs.ext (same_upd np)⟩
  · show ((α.own ++ [p]) ++ α.hid).Nodup
    have h := S.nd
    rw [List.append_assoc, List.singleton_append, List.Perm.nodup_iff List.perm_middle]
    exact List.nodup_cons.mpr ⟨fun z => fresh p z rfl, h⟩
  · have h : a ∈ (α.own ++ [p]) ++ α.hid := h
    by_cases e : a = p
    · subst e
      exact ⟨_, upd_same, fun _ z => by cases z⟩
    · have hm : a ∈ α.own ++ α.hid := by
        rcases List.mem_append.mp h with h | h
        · rcases List.mem_append.mp h with h | h
          · exact List.mem_append_left _ h
          · exact absurd (by simpa using h) e
        · exact List.mem_append_right _ h
      obtain ⟨o, q, n⟩ := S.there a hm
      exact ⟨o, same_upd np _ _ q, n⟩
  · by_cases hk : k < μ.length
    · rw [List.getElem?_append_left hk] at h
      obtain ⟨a, h1, h2⟩ := S.cell k c h
      refine ⟨a, st.pre _ _ h1, ?_⟩
      cases c with
      | lst l => obtain ⟨ys, e1, e2⟩ := h2; exact ⟨ys, same_upd np _ _ e1, e2.ext st.ext⟩
      | ins c fs => obtain ⟨A, dx, gs, e1, e2, e3, e4⟩ := h2; exact ⟨A, dx, gs, e1, same_upd np _ _ e2, e3, e4.ext st.ext⟩
    · rw [List.getElem?_append_right (by omega)] at h
      by_cases hz : k - μ.length = 0
      · rw [hz] at h
        cases h
        refine ⟨p, ?_, xs, upd_same, r.ext st.ext⟩
        show (α.own ++ [p])[k]? = _
        rw [List.getElem?_append_right (by rw [S.len]; omega), S.len, hz]
        rfl
      · rw [List.getElem?_eq_none (by simp; omega)] at h
        cases h
end

section
variable {X : Cx} {T : List (Addr × Str)} {E : XK} {j : Nat} {pos : Pos} {a b c : Expr} {f g h : EF} {es : List Expr} {r : AF}
theorem de_lstM (hr : DA X T E es r) (hl : es.length ≤ 1000 := by decide) : DE X T E (.List es pos) (eLstM r) :=
  pe_imp (pe_lst hr.pa) fun σ H Q ⟨ρ, α, μ, S, sl, q⟩ => hr.read (C := CvX X T) S sl q fun vs ws H1 α1 μ1 st S1 sl1 rs ln q1 => by
    refine ⟨by rw [rs.length, ln]; exact Nat.le_trans hl (by decide), fun p np => ?_⟩
    split at q1
    · rename_i ds e1
      have rr := rs.asDs e1
      exact q1 _ _ _ (step_push S1 np) (stor_push S1 np rr) ⟨p, by show (α1.own ++ [p])[_]? = _; rw [← S1.len]; simp, rfl⟩
    · exact (show False from q1).elim
/-! ### subscripts, slices -/
theorem de_ix (ha : DE X T E a f) (hb : DE X T E b g) (hs : PlainIx b := by exact fun _ _ => rfl) : DE X T E (.Subscript a b pos) (eOp dIx f g) :=
  pe_imp (pe_ix (ix_list.or ix_tup) ha hb hs) fun σ H Q q => op_rd os_ix q
structure DP (X : Cx) (T : List (Addr × Str)) (E : XK) (e : Option Expr) (o : Option EF) : Prop where
  po : PO X e (fun σ H Q => ∃ ρ α μ, Stor (CvX X T) H α μ ∧ Sl (CvX X T) H α μ σ ρ ∧ (match ePart o ρ μ with
    | .ok i μ1 => ∀ H1 α1, Step H α μ H1 α1 μ1 → Stor (CvX X T) H1 α1 μ1 → Q i H1
    | .er x μ1 => ∀ cls d H1 α1, Step H α μ H1 α1 μ1 → Stor (CvX X T) H1 α1 μ1 → RpX (CvX X T) H1 cls d x → E cls d H1
    | .no => False))
theorem po_imp {e : Option Expr} {t t' : TO} (h : PO X e t) (i : ∀ σ H Q, t' σ H Q → t σ H Q) : PO X e t' := ⟨fun pins s σ H Q I q => h.run pins s σ H Q I (i _ _ _ q)⟩
theorem dp_none : DP X T E none none := ⟨po_imp po_none fun σ H Q ⟨ρ, α, μ, S, sl, q⟩ => q H α (.refl _ _ _) S⟩
theorem dp_some (ha : DE X T E a f) : DP X T E (some a) (some f) := ⟨po_imp (po_some ha) fun σ H Q ⟨ρ, α, μ, S, sl, q⟩ => by
  refine ⟨ρ, α, μ, S, sl, ?_⟩
  have e : ePart (some f) ρ μ = (f ρ μ).bind fun w μ1 => match w with | .d (.int i) => .ok (some i) μ1 | _ => .no := rfl
  rw [e] at q
  cases e1 : f ρ μ with
  | ok w μ1 =>
    rw [e1, R.bind_ok] at q
    intro v H1 α1 st S1 rv
    cases w with
    | d d =>
      cases d with
      | int i => cases rv; exact ⟨i, rfl, q H1 α1 st S1⟩
      | none => exact q.elim
      | bool i => exact q.elim
      | str i => exact q.elim
      | list i => exact q.elim
      | tuple i => exact q.elim
      | dict i => exact q.elim
    | m k => exact q.elim
    | f k => exact q.elim
    | x k => exact q.elim
  | er x μ1 => rw [e1] at q; exact q
  | no => rw [e1] at q; exact q⟩
theorem DP.read {e : Option Expr} {o : Option EF} (hp : DP X T E e o) {Q : VK} {H : Hp} {α : Al} {μ : Sto} {σ : L2.St} {ρ : Mi.Env} {k : Option Int → Sto → R W} {Q' : Option Int → Hp → Prop} {t : TO} (S : Stor (CvX X T) H α μ) (sl : Sl (CvX X T) H α μ σ ρ) (q : PQ (CvX X T) E Q H α μ ((ePart o ρ μ).bind k))
    (cont : ∀ i H1 α1 μ1, Step H α μ H1 α1 μ1 → Stor (CvX X T) H1 α1 μ1 → Sl (CvX X T) H1 α1 μ1 σ ρ → PQ (CvX X T) E Q H1 α1 μ1 (k i μ1) → Q' i H1) :
    ∃ ρ α μ, Stor (CvX X T) H α μ ∧ Sl (CvX X T) H α μ σ ρ ∧ (match ePart o ρ μ with
    | .ok i μ1 => ∀ H1 α1, Step H α μ H1 α1 μ1 → Stor (CvX X T) H1 α1 μ1 → Q' i H1
    | .er x μ1 => ∀ cls d H1 α1, Step H α μ H1 α1 μ1 → Stor (CvX X T) H1 α1 μ1 → RpX (CvX X T) H1 cls d x → E cls d H1
    | .no => False) := by
  refine ⟨ρ, α, μ, S, sl, ?_⟩
  cases e : ePart o ρ μ with
  | ok i μ1 =>
    rw [e] at q
    exact fun H1 α1 st S1 => cont i H1 α1 μ1 st S1 (sl.step st) (PQ.step (r := k i μ1) q st)
  | er x μ1 => rw [e] at q; exact q
  | no => rw [e] at q; exact q
theorem de_sl {lo hi : Option Expr} {p2 : Pos} {o u : Option EF} (ha : DE X T E a f) (hl : DP X T E lo o) (hh : DP X T E hi u) : DE X T E (.Subscript a (.Slice lo hi none p2) pos) (eSl dCut f o u) :=
  pe_imp (pe_slice ((sl_list.or sl_tupA).or sl_str) ha hl.po hh.po) fun σ H Q ⟨ρ, α, μ, S, sl, q⟩ => tD_bind S sl q fun v w H1 α1 μ1 st1 S1 sl1 r1 q1 => by
    refine hl.read (t := fun _ _ _ => True) S1 sl1 q1 fun i H2 α2 μ2 st2 S2 sl2 q2 => ?_
    refine hh.read (t := fun _ _ _ => True) S2 sl2 q2 fun k H3 α3 μ3 st3 S3 sl3 q3 => ?_
    obtain ⟨z, e, q4⟩ := PQ.ofO q3
    cases e1 : view μ3 w with
    | none => rw [e1] at e; cases e
    | some d =>
      simp only [e1, Option.bind_some] at e
      cases e2 : dCut d i k with
      | none => rw [e2] at e; cases e
      | some d2 =>
        rw [e2] at e
        cases e
        exact os_cut S3 (((r1.step st2).step st3).view S3 e1) e2 fun v H' sm rv => q4 v H' α3 (Same.step S3 sm) (S3.same sm) rv
/-- a module's tuple of texts -/
def GTup (K : PySem.W.Frag) (mg : Str → Option Value) (x : Str) (ds : List D) : Prop := ∃ a xs, mg x = some (.ref a) ∧ ∀ H M, SqT K H a xs ∧ RpAll K H M xs ds
theorem de_gtup {x : Str} {ds : List D} (h : GTup X.K X.mg x ds) (hg : Gl X x := by rfl) (hd : (x == ("__debug__" : Str)) = false := by decide) : DE X T E (.Name x pos) (eC (.tuple ds)) := by
  obtain ⟨A, xs, hm, hr⟩ := h
  exact pe_imp (pe_glob hg hm (v := .ref A) rfl hd) fun σ H Q ⟨ρ, α, μ, S, sl, q⟩ => PQ.ok (w := .d (.tuple ds)) S (.tup (hr H (Own α μ)).1 (hr H (Own α μ)).2) q
/-- xs[::-1] -/
theorem de_rev {j1 : Nat} {p1 p2 p3 : Pos} (ha : DE X T E a f) : DE X T E (.Subscript a (.Slice none none (some (.UnaryOp .USub (.Constant (.int 1) j1 p1) p2)) p3) pos) (eUn dRevL f) :=
  pe_imp (pe_revL ha) fun σ H Q ⟨ρ, α, μ, S, sl, q⟩ => tD_bind S sl q fun v w H1 α1 μ1 st1 S1 sl1 r1 q1 => by
    obtain ⟨z, e, q2⟩ := PQ.ofO q1
    cases e1 : view μ1 w with
    | none => rw [e1] at e; cases e
    | some d =>
      simp only [e1, Option.bind_some] at e
      cases d with
      | list l =>
        cases e
        obtain ⟨p4, xs, rfl, h4, r4⟩ := (r1.view S1 e1).list
        refine ⟨p4, xs, rfl, .inl h4, fun p np => ?_⟩
        obtain ⟨sm, rp⟩ := rp_newL S1 np r4.reverse
        exact q2 _ _ _ (Same.step S1 sm) (S1.same sm) rp
      | none => cases e
      | bool b => cases e
      | int b => cases e
      | str b => cases e
      | tuple b => cases e
      | dict b => cases e
/-! ### builtins -/
def BlS (C : Cv) (h : List D → Option D) (r : List V → Hp → VK → Prop) : Prop := ∀ H α μ xs ds z Q, Stor C H α μ → RpTs C H (Own α μ) xs ds → h ds = some z → (∀ v H', Same H H' → Rp C.K H' (Own α μ) v z → Q v H') → r xs H Q
theorem blt_rd {hh : List D → Option D} {rr : List V → Hp → VK → Prop} (hs : BlS (CvX X T) hh rr) (hr : DA X T E es r) {σ : L2.St} {H : Hp} {Q : VK} (q : tD (CvX X T) E (eBlt hh r) σ H Q) : tDs (CvX X T) E r σ H fun vs H1 => rr vs H1 Q := by
  obtain ⟨ρ, α, μ, S, sl, q⟩ := q
  refine hr.read (C := CvX X T) S sl q fun vs ws H1 α1 μ1 st S1 sl1 rs ln q1 => ?_
  obtain ⟨z, e, q2⟩ := PQ.ofO q1
  cases e1 : Mi.views μ1 ws with
  | none => rw [e1] at e; cases e
  | some ds =>
    simp only [e1, Option.bind_some] at e
    cases e2 : hh ds with
    | none => rw [e2] at e; cases e
    | some d =>
      rw [e2] at e
      cases e
      exact hs H1 α1 μ1 vs ds d Q S1 (rs.views S1 e1) e2 fun v H' sm rv => q2 v H' α1 (Same.step S1 sm) (S1.same sm) rv
theorem de_blt {x : Str} {id : String} {p : Pos} {hh : List D → Option D} {rr : List V → Hp → VK → Prop} (hc : CallR X (.builtin id) rr) (hs : BlS (CvX X T) hh rr) (hm : X.mg x = none) (hv : bootBuiltins x = some (.builtin id)) (hr : DA X T E (a :: es) r) (hg : Gl X x := by rfl) (hn : x ≠ "__name__" := by decide) (hdb : (x == ("__debug__" : Str)) = false := by decide)
    (he : starEach (a :: es) X.env = (false, eval a X.env) :: starEach es X.env := by rfl) (hpl : (backTo pos (starEach es X.env)).any (·.1) = false := by rfl) : DE X T E (.Call (.Name x p) (a :: es) [] pos) (eBlt hh r) :=
  pe_imp (pe_callB hc hg hm hv hr.pa hn hdb he hpl) fun σ H Q q => blt_rd hs hr q
theorem de_bty {x : Str} {id : String} {p : Pos} {hh : List D → Option D} {rr : List V → Hp → VK → Prop} (hc : CallR X (.type id) rr) (hs : BlS (CvX X T) hh rr) (hm : X.mg x = none) (hv : bootBuiltins x = some (.type id)) (hr : DA X T E (a :: es) r) (hg : Gl X x := by rfl) (hn : x ≠ "__name__" := by decide) (hdb : (x == ("__debug__" : Str)) = false := by decide)
    (he : starEach (a :: es) X.env = (false, eval a X.env) :: starEach es X.env := by rfl) (hpl : (backTo pos (starEach es X.env)).any (·.1) = false := by rfl) : DE X T E (.Call (.Name x p) (a :: es) [] pos) (eBlt hh r) :=
  pe_imp (pe_callTy hc hg hm hv hr.pa hn hdb he hpl) fun σ H Q q => blt_rd hs hr q
end
/-! ### single builtins -/
section
variable {C : Cv}
theorem RpTs.one {H : Hp} {M : Addr → Prop} {xs : List V} {d : D} (h : RpTs C H M xs [d]) : ∃ x, xs = [x] ∧ RpT C.K H M x d := by
  cases h with
  | cons r t => cases t; exact ⟨_, rfl, r⟩
theorem RpTs.two {H : Hp} {M : Addr → Prop} {xs : List V} {d e : D} (h : RpTs C H M xs [d, e]) : ∃ x y, xs = [x, y] ∧ RpT C.K H M x d ∧ RpT C.K H M y e := by
  cases h with
  | cons r t => cases t with
    | cons r2 t => cases t; exact ⟨_, _, rfl, r, r2⟩
theorem bs_len : BlS C bLen (fun xs H Q => ∃ x n, xs = [x] ∧ LenV C.K x H n ∧ Q (.int n) H) := by
  intro H α μ xs ds z Q S rs e q
  unfold bLen at e
  split at e
  · cases e
    obtain ⟨x, rfl, r0⟩ := rs.one
    obtain ⟨p1, ys, rfl, h1, r1⟩ := r0.list
    exact ⟨_, ys.length, rfl, .inl ⟨ys, .inl h1, rfl⟩, by rw [r1.length]; exact q _ H (.refl H) (.int _)⟩
  · cases e
    obtain ⟨x, rfl, r0⟩ := rs.one
    obtain ⟨p1, ys, rfl, h1, r1⟩ := r0.tuple
    exact ⟨_, ys.length, rfl, .inr ⟨ys, h1, rfl⟩, by rw [r1.length]; exact q _ H (.refl H) (.int _)⟩
  · split at e
    · rename_i hl
      cases e
      obtain ⟨x, rfl, r0⟩ := rs.one
      have hh := r0.str
      subst hh
      exact ⟨_, _, rfl, ⟨lim_line hl, rfl⟩, q _ H (.refl H) (.int _)⟩
    · cases e
  · cases e
theorem bs_max2 : BlS C bMax2 (fun xs H Q => ∃ i j, xs = [.int i, .int j] ∧ Q (.int (if j > i then j else i)) H) := by
  intro H α μ xs ds z Q S rs e q
  unfold bMax2 at e
  split at e
  · cases e
    obtain ⟨x, y, rfl, r1, r2⟩ := rs.two
    exact ⟨_, _, by rw [r1.int, r2.int], q _ H (.refl H) (.int _)⟩
  · cases e
theorem bs_min2 : BlS C bMin2 (fun xs H Q => ∃ i j, xs = [.int i, .int j] ∧ Q (.int (if j < i then j else i)) H) := by
  intro H α μ xs ds z Q S rs e q
  unfold bMin2 at e
  split at e
  · cases e
    obtain ⟨x, y, rfl, r1, r2⟩ := rs.two
    exact ⟨_, _, by rw [r1.int, r2.int], q _ H (.refl H) (.int _)⟩
  · cases e
theorem bs_int : BlS C bInt (fun xs H Q => ((∃ i, xs = [.int i] ∧ Q (.int i) H) ∨ ∃ k, xs = [.bl k] ∧ Q (.int (if k then 1 else 0)) H) ∨ ∃ a n, xs = [.str a] ∧ PySem.intText? a = some n ∧ a.length ≤ 640 ∧ Q (.int n) H) := by
  intro H α μ xs ds z Q S rs e q
  unfold bInt at e
  split at e
  · cases e
    obtain ⟨x, rfl, r1⟩ := rs.one
    exact .inl (.inl ⟨_, by rw [r1.int], q _ H (.refl H) (.int _)⟩)
  · rename_i a
    obtain ⟨x, rfl, r1⟩ := rs.one
    cases e1 : PySem.intText? a with
    | none => rw [e1] at e; cases e
    | some n =>
      rw [e1] at e
      simp only [Option.bind_some] at e
      split at e
      · rename_i hl
        cases e
        exact .inr ⟨a, n, by rw [r1.str], e1, hl, q _ H (.refl H) (.int _)⟩
      · cases e
  · cases e
    obtain ⟨x, rfl, r1⟩ := rs.one
    exact .inl (.inr ⟨_, by rw [r1.bl], q _ H (.refl H) (.int _)⟩)
  · cases e
theorem bs_str : BlS C bStr (fun xs H Q => (∃ i, xs = [.int i] ∧ i.natAbs.log2 < 1920 ∧ Q (.str (toString i)) H) ∨ ((∃ a, xs = [.str a] ∧ Q (.str a) H) ∨ ∃ b, xs = [.bl b] ∧ Q (.str (if b then "True" else "False")) H)) := by
  intro H α μ xs ds z Q S rs e q
  unfold bStr at e
  split at e
  · split at e
    · rename_i hl
      cases e
      obtain ⟨x, rfl, r1⟩ := rs.one
      exact .inl ⟨_, by rw [r1.int], hl, q _ H (.refl H) (.str _)⟩
    · cases e
  · cases e
    obtain ⟨x, rfl, r1⟩ := rs.one
    exact .inr (.inl ⟨_, by rw [r1.str], q _ H (.refl H) (.str _)⟩)
  · cases e
    obtain ⟨x, rfl, r1⟩ := rs.one
    exact .inr (.inr ⟨_, by rw [r1.bl], q _ H (.refl H) (.str _)⟩)
  · cases e
theorem call_strB {X : Cx} : CallR X (.type "str") (fun xs H Q => ∃ b, xs = [.bl b] ∧ Q (.str (if b then "True" else "False")) H) := by
  intro pins s σ H xs us Q I r h
  obtain ⟨b, rfl, q⟩ := h
  cases r with
  | cons r1 rr =>
    cases rr
    cases r1
    exact PySem.P.str_of_bool ⟨.str _, H, I.tok _, ⟨_, rfl⟩, q⟩
theorem bs_abs : BlS C bAbs (fun xs H Q => ∃ i, xs = [.int i] ∧ Q (.int (if i < 0 then -i else i)) H) := by
  intro H α μ xs ds z Q S rs e q
  unfold bAbs at e
  split at e
  · cases e
    obtain ⟨x, rfl, r1⟩ := rs.one
    exact ⟨_, by rw [r1.int], q _ H (.refl H) (.int _)⟩
  · cases e
theorem RpAll.bools {K : PySem.W.Frag} {H : Hp} {M : Addr → Prop} : ∀ {vs : List V} {ds : List D} {k : Bool}, RpAll K H M vs ds → Mi.allB ds = some k → ∃ bs : List Bool, vs = bs.map V.bl ∧ bs.all id = k
  | _, _, _, .nil, e => by cases e; exact ⟨[], rfl, rfl⟩
  | _, .bool b :: ds, k, .cons r t, e => by
    unfold Mi.allB at e
    cases e1 : Mi.allB ds with
    | none => rw [e1] at e; cases e
    | some k' =>
      rw [e1] at e
      cases e
      obtain ⟨bs, rfl, h⟩ := RpAll.bools t e1
      cases r
      exact ⟨b :: bs, rfl, by rw [List.all_cons, h]; rfl⟩
  | _, .none :: ds, _, .cons r t, e => by cases e
  | _, .int _ :: ds, _, .cons r t, e => by cases e
  | _, .str _ :: ds, _, .cons r t, e => by cases e
  | _, .list _ :: ds, _, .cons r t, e => by cases e
  | _, .tuple _ :: ds, _, .cons r t, e => by cases e
  | _, .dict _ :: ds, _, .cons r t, e => by cases e
theorem bs_all : BlS C bAll (rAll C.K) := by
  intro H α μ xs ds z Q S rs e q
  unfold bAll at e
  split at e
  · rename_i l
    cases e1 : Mi.allB l with
    | none => rw [e1] at e; cases e
    | some k =>
      rw [e1] at e
      cases e
      obtain ⟨x, rfl, r0⟩ := rs.one
      obtain ⟨p1, ys, rfl, h1, r1⟩ := r0.list
      obtain ⟨bs, rfl, h⟩ := r1.bools e1
      exact ⟨p1, bs, rfl, .inl h1, by rw [h]; exact q _ H (.refl H) (.bl _)⟩
  · cases e
theorem RpAll.intsAll {K : PySem.W.Frag} {H : Hp} {M : Addr → Prop} : ∀ {vs : List V} {ds : List D} {ns : List Int}, RpAll K H M vs ds → intsOf ds = some ns → vs = ns.map V.int
  | _, _, _, .nil, e => by cases e; rfl
  | _, .int b :: ds, k, .cons r t, e => by
    unfold intsOf at e
    cases e1 : intsOf ds with
    | none => rw [e1] at e; cases e
    | some k' =>
      rw [e1] at e
      cases e
      cases r
      rw [RpAll.intsAll t e1]
      rfl
  | _, .none :: ds, _, .cons r t, e => by cases e
  | _, .bool _ :: ds, _, .cons r t, e => by cases e
  | _, .str _ :: ds, _, .cons r t, e => by cases e
  | _, .list _ :: ds, _, .cons r t, e => by cases e
  | _, .tuple _ :: ds, _, .cons r t, e => by cases e
  | _, .dict _ :: ds, _, .cons r t, e => by cases e
theorem insI_perm (x : Int) : ∀ l : List Int, (insI x l).Perm (x :: l)
  | [] => .refl _
  | y :: r => by
    unfold insI
    split
    · exact .refl _
    · exact ((insI_perm x r).cons y).trans (.swap x y r)
theorem isort_perm : ∀ l : List Int, (isort l).Perm l
  | [] => .refl _
  | x :: r => (insI_perm x (isort r)).trans ((isort_perm r).cons x)
theorem insI_sorted (x : Int) : ∀ l : List Int, l.Pairwise (· ≤ ·) → (insI x l).Pairwise (· ≤ ·)
  | [], _ => List.pairwise_singleton _ _
  | y :: r, h => by
    unfold insI
    split
    · rename_i hx
      refine List.pairwise_cons.mpr ⟨fun z hz => ?_, h⟩
      rcases List.mem_cons.mp hz with e | e
      · rw [e]; exact hx
      · exact Int.le_trans hx ((List.pairwise_cons.mp h).1 z e)
    · rename_i hx
      refine List.pairwise_cons.mpr ⟨fun z hz => ?_, insI_sorted x r (List.pairwise_cons.mp h).2⟩
      rcases List.mem_cons.mp ((insI_perm x r).mem_iff.mp hz) with e | e
      · rw [e]; omega
      · exact (List.pairwise_cons.mp h).1 z e
theorem isort_sorted : ∀ l : List Int, (isort l).Pairwise (· ≤ ·)
  | [] => .nil
  | x :: r => insI_sorted x _ (isort_sorted r)
theorem sorted_uniq : ∀ {a b : List Int}, a.Perm b → a.Pairwise (· ≤ ·) → b.Pairwise (· ≤ ·) → a = b
  | [], b, p, _, _ => (List.nil_perm.mp p).symm
  | x :: a, [], p, _, _ => absurd (List.perm_nil.mp p) (List.cons_ne_nil _ _)
  | x :: a, y :: b, p, ha, hb => by
    have e : x = y := by
      have h1 : x ∈ y :: b := p.mem_iff.mp List.mem_cons_self
      have h2 : y ∈ x :: a := p.mem_iff.mpr List.mem_cons_self
      rcases List.mem_cons.mp h1 with h1 | h1
      · exact h1
      · rcases List.mem_cons.mp h2 with h2 | h2
        · exact h2.symm
        · exact Int.le_antisymm ((List.pairwise_cons.mp ha).1 y h2) ((List.pairwise_cons.mp hb).1 x h1)
    subst e
    rw [sorted_uniq (List.perm_cons x |>.mp p) (List.pairwise_cons.mp ha).2 (List.pairwise_cons.mp hb).2]
theorem rpAll_ints {K : PySem.W.Frag} {H : Hp} {M : Addr → Prop} : ∀ ns : List Int, RpAll K H M (ns.map V.int) (ns.map PyData.int)
  | [] => .nil
  | n :: r => .cons (.int n) (rpAll_ints r)
theorem minI_mem : ∀ (r : List Int) (a : Int), minI a r ∈ a :: r
  | [], a => List.mem_cons_self
  | b :: r, a => by
    have h := minI_mem r (if b < a then b else a)
    unfold minI
    rcases List.mem_cons.mp h with h | h
    · rw [h]
      split
      · simp
      · simp
    · simp [h]
theorem minI_le : ∀ (r : List Int) (a : Int), ∀ y ∈ a :: r, minI a r ≤ y
  | [], a, y, h => by rw [List.mem_singleton.mp h]; exact Int.le_refl _
  | b :: r, a, y, h => by
    have ih := minI_le r (if b < a then b else a)
    unfold minI
    have h0 := ih _ List.mem_cons_self
    have h1 : (if b < a then b else a) ≤ a ∧ (if b < a then b else a) ≤ b := by split <;> omega
    rcases List.mem_cons.mp h with rfl | h
    · exact Int.le_trans h0 h1.1
    · rcases List.mem_cons.mp h with rfl | h
      · exact Int.le_trans h0 h1.2
      · exact ih y (List.mem_cons_of_mem _ h)
theorem bs_min1 : BlS C bMin1 (rMin C.K) := by
  intro H α μ xs ds z Q S rs e q
  unfold bMin1 at e
  split at e
  · rename_i l
    cases e1 : intsOf l with
    | none => rw [e1] at e; cases e
    | some ns =>
      rw [e1] at e
      cases ns with
      | nil => cases e
      | cons a r =>
        cases e
        obtain ⟨x, rfl, r0⟩ := rs.one
        obtain ⟨p1, ys, rfl, h1, r1⟩ := r0.list
        have hy := r1.intsAll e1
        subst hy
        refine ⟨p1, a :: r, rfl, .inl h1, by simp, fun m hm hle => ?_⟩
        have e2 : m = minI a r := Int.le_antisymm (hle _ (minI_mem r a)) (minI_le r a m hm)
        rw [e2]
        exact q _ H (.refl H) (.int _)
  · cases e
theorem bs_sorted : BlS C bSorted (rSortedI C.K) := by
  intro H α μ xs ds z Q S rs e q
  unfold bSorted at e
  split at e
  · rename_i l
    cases e1 : intsOf l with
    | none => rw [e1] at e; cases e
    | some ns =>
      rw [e1] at e
      cases e
      obtain ⟨x, rfl, r0⟩ := rs.one
      obtain ⟨p1, ys, rfl, h1, r1⟩ := r0.list
      have hy := r1.intsAll e1
      subst hy
      refine ⟨p1, ns, rfl, .inl h1, fun ns' p hp hs np => ?_⟩
      have he : ns' = isort ns := sorted_uniq (hp.trans (isort_perm ns).symm) hs (isort_sorted ns)
      subst he
      obtain ⟨sm, rp⟩ := rp_newL S np (rpAll_ints (isort ns))
      exact q _ _ sm rp
  · cases e
theorem RpAll.ints {K : PySem.W.Frag} {H : Hp} {M : Addr → Prop} : ∀ {vs : List V} {ds : List D} {k : Int}, RpAll K H M vs ds → sumI ds = some k → ∃ ns : List Int, vs = ns.map V.int ∧ ns.sum = k
  | _, _, _, .nil, e => by cases e; exact ⟨[], rfl, rfl⟩
  | _, .int b :: ds, k, .cons r t, e => by
    unfold sumI at e
    cases e1 : sumI ds with
    | none => rw [e1] at e; cases e
    | some k' =>
      rw [e1] at e
      cases e
      obtain ⟨bs, rfl, h⟩ := RpAll.ints t e1
      cases r
      exact ⟨b :: bs, rfl, by rw [List.sum_cons, h]⟩
  | _, .none :: ds, _, .cons r t, e => by cases e
  | _, .bool _ :: ds, _, .cons r t, e => by cases e
  | _, .str _ :: ds, _, .cons r t, e => by cases e
  | _, .list _ :: ds, _, .cons r t, e => by cases e
  | _, .tuple _ :: ds, _, .cons r t, e => by cases e
  | _, .dict _ :: ds, _, .cons r t, e => by cases e
theorem bs_sum : BlS C bSum (rSum C.K) := by
  intro H α μ xs ds z Q S rs e q
  unfold bSum at e
  split at e
  · rename_i l
    cases e1 : sumI l with
    | none => rw [e1] at e; cases e
    | some k =>
      rw [e1] at e
      cases e
      obtain ⟨x, rfl, r0⟩ := rs.one
      obtain ⟨p1, ys, rfl, h1, r1⟩ := r0.list
      obtain ⟨bs, rfl, h⟩ := r1.ints e1
      exact ⟨p1, bs, rfl, .inl h1, by rw [h]; exact q _ H (.refl H) (.int _)⟩
  · cases e
theorem bs_tup : BlS C bTup (fun xs H Q => ∃ p ys, xs = [.ref p] ∧ ((SqL C.K H p ys ∧ ∀ l, H l = none → Q (.ref l) (upd H l (.tup ys))) ∨ (SqT C.K H p ys ∧ Q (.ref p) H))) := by
  intro H α μ xs ds z Q S rs e q
  unfold bTup at e
  split at e
  · cases e
    obtain ⟨x, rfl, r0⟩ := rs.one
    obtain ⟨p1, ys, rfl, h1, r1⟩ := r0.list
    refine ⟨p1, ys, rfl, .inl ⟨.inl h1, fun p np => ?_⟩⟩
    obtain ⟨sm, rp⟩ := rp_newT np r1
    exact q _ _ sm rp
  · cases e
    obtain ⟨x, rfl, r0⟩ := rs.one
    obtain ⟨p1, ys, rfl, h1, r1⟩ := r0.tuple
    exact ⟨p1, ys, rfl, .inr ⟨h1, q _ H (.refl H) (.tup h1 r1)⟩⟩
  · cases e
theorem bs_lst : BlS C bLst (fun xs H Q => ∃ p ys, xs = [.ref p] ∧ (SqL C.K H p ys ∨ SqT C.K H p ys) ∧ ∀ l, H l = none → Q (.ref l) (upd H l (.lst ys))) := by
  intro H α μ xs ds z Q S rs e q
  unfold bLst at e
  split at e
  · cases e
    obtain ⟨x, rfl, r0⟩ := rs.one
    obtain ⟨p1, ys, rfl, h1, r1⟩ := r0.list
    refine ⟨p1, ys, rfl, .inl (.inl h1), fun p np => ?_⟩
    obtain ⟨sm, rp⟩ := rp_newL S np r1
    exact q _ _ sm rp
  · cases e
    obtain ⟨x, rfl, r0⟩ := rs.one
    obtain ⟨p1, ys, rfl, h1, r1⟩ := r0.tuple
    refine ⟨p1, ys, rfl, .inr h1, fun p np => ?_⟩
    obtain ⟨sm, rp⟩ := rp_newL S np r1
    exact q _ _ sm rp
  · cases e
/-! ### isinstance -/
def tyN : Ty → String
  | .int => "int"
  | .bool => "bool"
  | .str => "str"
  | .tuple => "tuple"
  | .list => "list"
def dTy : D → String
  | .none => "NoneType"
  | .bool _ => "bool"
  | .int _ => "int"
  | .str _ => "str"
  | .list _ => "list"
  | .tuple _ => "tuple"
  | .dict _ => "dict"
theorem RpT.ty {H : Hp} {M : Addr → Prop} {v : V} {d : D} (h : RpT C.K H M v d) : TyX C.K H v (.type (dTy d)) := by
  cases d with
  | none => rw [h.none]; exact .base .non
  | bool b => rw [h.bl]; exact .base (.bl b)
  | int b => rw [h.int]; exact .base (.int b)
  | str b => rw [h.str]; exact .base (.str b)
  | list l =>
    obtain ⟨p1, ys, rfl, h1, r1⟩ := h.list
    rcases h1 with h1 | ⟨o, h1⟩
    · exact .base (.lst h1)
    · exact .base (.frz h1)
  | tuple l =>
    obtain ⟨p1, ys, rfl, h1, r1⟩ := h.tuple
    rcases h1 with (h1 | ⟨o, h1⟩) | ⟨o, its, n, h1, h2, _⟩
    · exact .base (.tup h1)
    · exact .fTuple h1
    · exact .kTuple h1 h2
  | dict l => exact h.nodict.elim
theorem kit_is (t : Ty) (d : D) : kitB (dTy d) (tyN t) = some (isTy t d) := by
  cases t <;> cases d <;> (simp only [dTy, tyN, isTy]; decide +kernel)
end
section
variable {X : Cx} {T : List (Addr × Str)} {E : XK} {j : Nat} {pos : Pos} {a b c : Expr} {f g h : EF} {es : List Expr} {r : AF}
theorem de_isi (t : Ty) {x y : Str} {p p2 : Pos} (hm : X.mg x = none) (hv : bootBuiltins x = some (.builtin "isinstance")) (hm2 : X.mg y = none) (hv2 : bootBuiltins y = some (.type (tyN t))) (ha : DE X T E a f) (hg : Gl X x := by rfl) (hg2 : Gl X y := by rfl) (hn : x ≠ "__name__" := by decide) (hn2 : y ≠ "__name__" := by decide) (hdb : (x == ("__debug__" : Str)) = false := by decide) (hdb2 : (y == ("__debug__" : Str)) = false := by decide)
    (he : starEach (a :: [.Name y p2]) X.env = (false, eval a X.env) :: starEach [.Name y p2] X.env := by rfl) (hpl : (backTo pos (starEach [.Name y p2] X.env)).any (·.1) = false := by rfl) (he2 : starEach [.Name y p2] X.env = (false, eval (.Name y p2) X.env) :: starEach [] X.env := by rfl) :
    DE X T E (.Call (.Name x p) [a, .Name y p2] [] pos) (eIsi t f) :=
  pe_imp (pe_callB call_isi hg hm hv (pa_cons ha (pa_cons (pe_bltn hg2 hm2 hv2 (v := .ty (tyN t)) rfl hn2 hdb2) pa_nil he2) he) hn hdb he hpl) fun σ H Q ⟨ρ, α, μ, S, sl, q⟩ =>
    tD_bind S sl q fun v w H1 α1 μ1 st S1 sl1 rv q1 => by
      obtain ⟨z, e, q2⟩ := PQ.ofO q1
      cases e1 : Mi.view μ1 w with
      | none => rw [e1] at e; cases e
      | some d =>
        rw [e1] at e
        cases e
        exact ⟨v, .ty (tyN t), .type (dTy d), .type (tyN t), isTy t d, rfl, .ty _, (rv.view S1 e1).ty, kit_ty (kit_is t d), PQ.bl S1 q2⟩
/-! ### defs -/
/-- a def's promise: it hands back what the mirror does -/
def spD (C : Cv) (g : GF) : Sp := fun vs H Q E => ∃ ws α μ, Stor C H α μ ∧ RpWs C H α μ vs ws ∧ PQ C E Q H α μ (g ws μ)
structure HasFn (P : Program) (w : World) (K : PySem.W.Frag) (mg : Str → Option Value) (base : Heap) (T : List (Addr × Str)) (k : Nat) (x : Str) (g : GF) : Prop where
  ex : ∃ f fd ps ds dvs dd g0, mg x = some (.ref f) ∧ PySem.W.keepIn K (.ref f) = true ∧ Binds K fd ps ds ∧ Vals dvs ds ∧ (∀ H M, RpAll K H M dvs dd) ∧ (∀ ws μ, g ws μ = g0 (ws ++ dd.map W.d) μ) ∧
    FnOk P w K mg base (L2N.CX P w) k f fd ps (spD ⟨K, mg, T⟩ g0)
theorem HasFn.mono {P : Program} {w : World} {K : PySem.W.Frag} {mg : Str → Option Value} {base : Heap} {T : List (Addr × Str)} {k k' : Nat} {x : Str} {g : GF} (h : HasFn P w K mg base T k x g) (hk : k ≤ k') : HasFn P w K mg base T k' x g := by
  obtain ⟨f, fd, ps, ds, dvs, dd, g0, h1, h2, h3, h4, h5, h6, h7⟩ := h.ex
  exact ⟨f, fd, ps, ds, dvs, dd, g0, h1, h2, h3, h4, h5, h6, h7.mono hk⟩
theorem RpAll.ws {C : Cv} {H : Hp} {α : Al} {μ : Sto} : ∀ {vs : List V} {ds : List PyData}, RpAll C.K H (Own α μ) vs ds → RpWs C H α μ vs (ds.map W.d)
  | _, _, .nil => .nil
  | _, _, .cons r t => .cons r (RpAll.ws t)
theorem RpWs.append {C : Cv} {H : Hp} {α : Al} {μ : Sto} : ∀ {vs us : List V} {ws zs : List W}, RpWs C H α μ vs ws → RpWs C H α μ us zs → RpWs C H α μ (vs ++ us) (ws ++ zs)
  | _, _, _, _, .nil, s => s
  | _, _, _, _, .cons r t, s => .cons r (RpWs.append t s)
theorem de_call {k : Nat} {x : Str} {gf : GF} {p : Pos} (ck : CK X E j) (hf : HasFn X.prog X.w X.K X.mg X.base T k x gf) (hr : DA X T E (a :: es) r) (hk : k ≤ j := by decide) (hg : Gl X x := by rfl) (hdb : (x == ("__debug__" : Str)) = false := by decide)
    (he : starEach (a :: es) X.env = (false, eval a X.env) :: starEach es X.env := by rfl) (hpl : (backTo pos (starEach es X.env)).any (·.1) = false := by rfl) : DE X T E (.Call (.Name x p) (a :: es) [] pos) (eCall gf r) := by
  obtain ⟨f, fd, ps, ds, dvs, dd, g0, h1, h2, h3, h4, h5, h6, h7⟩ := hf.ex
  refine pe_imp (pe_call h7 (ck.room.mono hk) hg h1 h2 h3 h4 ck.passes hr.pa hdb he hpl) fun σ H Q ⟨ρ, α, μ, S, sl, q⟩ => ?_
  refine hr.read (C := CvX X T) S sl q fun vs ws H1 α1 μ1 st S1 sl1 rs ln q1 => ?_
  rw [h6] at q1
  exact ⟨ws ++ dd.map W.d, α1, μ1, S1, rs.append (RpAll.ws (h5 _ _)), q1⟩
theorem de_call0 {k : Nat} {x : Str} {gf : GF} {p : Pos} (ck : CK X E j) (hf : HasFn X.prog X.w X.K X.mg X.base T k x gf) (hk : k ≤ j := by decide) (hg : Gl X x := by rfl) (hdb : (x == ("__debug__" : Str)) = false := by decide) : DE X T E (.Call (.Name x p) [] [] pos) (eCall gf aNil) := by
  obtain ⟨f, fd, ps, ds, dvs, dd, g0, h1, h2, h3, h4, h5, h6, h7⟩ := hf.ex
  refine pe_imp (pe_call0 h7 (ck.room.mono hk) hg h1 h2 h3 h4 ck.passes hdb) fun σ H Q ⟨ρ, α, μ, S, sl, q⟩ => ?_
  have q : PQ (CvX X T) E Q H α μ (gf [] μ) := q
  rw [h6] at q
  exact ⟨_, α, μ, S, RpAll.ws (h5 _ _), q⟩
/-- what is known of a def of the top: it stands there, its parameters are bound in their order -/
structure DefFact (K : PySem.W.Frag) (mg : Str → Option Value) (x : Str) (st : Stmt) (ps : List Str) : Prop where
  ex : ∃ f fd dvs kws, FunD K x x (defArgs st) (defBody st) (defScope st) dvs kws f fd ∧ mg x = some (.ref f) ∧ Binds K fd ps []
/-- .. with defaults for the last ones -/
structure DefFact1 (K : PySem.W.Frag) (mg : Str → Option Value) (x : Str) (st : Stmt) (ps : List Str) (dd : List PyData) : Prop where
  ex : ∃ f fd dvs kws ds, FunD K x x (defArgs st) (defBody st) (defScope st) dvs kws f fd ∧ mg x = some (.ref f) ∧ Binds K fd ps ds ∧ Vals dvs ds ∧ (∀ H M, RpAll K H M dvs dd)
end
end L3

set_option Elab.async false
set_option linter.all false
set_option maxRecDepth 100000
/-! Statements, loops, comprehensions, defs. -/
namespace L3
open PySem PySem.Spec PyProof.Rows L2 Mi

def QS (C : Cv) (E : XK) (D : Ends) (H : Hp) (α : Al) (μ : Sto) : RS → Prop
  | .nx ρ' μ' => ∀ σ' H' α', Step H α μ H' α' μ' → Stor C H' α' μ' → Sl C H' α' μ' σ' ρ' → D.nx σ' H'
  | .rt w μ' => ∀ v H' α', Step H α μ H' α' μ' → Stor C H' α' μ' → RpW C H' α' μ' v w → D.rt v H'
  | .bk ρ' μ' => ∀ σ' H' α', Step H α μ H' α' μ' → Stor C H' α' μ' → Sl C H' α' μ' σ' ρ' → D.bk σ' H'
  | .ct ρ' μ' => ∀ σ' H' α', Step H α μ H' α' μ' → Stor C H' α' μ' → Sl C H' α' μ' σ' ρ' → D.ct σ' H'
  | .er x μ' => ∀ cls d H' α', Step H α μ H' α' μ' → Stor C H' α' μ' → RpX C H' cls d x → E cls d H'
  | .no => False
theorem QS.step {C : Cv} {E : XK} {D : Ends} {H H1 : Hp} {α α1 : Al} {μ μ1 : Sto} {r : RS} (h : QS C E D H α μ r) (st : Step H α μ H1 α1 μ1) : QS C E D H1 α1 μ1 r := by
  cases r with
  | nx w μ' => exact fun v H' α' s S q => h v H' α' (st.trans s) S q
  | rt w μ' => exact fun v H' α' s S q => h v H' α' (st.trans s) S q
  | bk w μ' => exact fun v H' α' s S q => h v H' α' (st.trans s) S q
  | ct w μ' => exact fun v H' α' s S q => h v H' α' (st.trans s) S q
  | er x μ' => exact fun cls d H' α' s S q => h cls d H' α' (st.trans s) S q
  | no => exact h
def tS (C : Cv) (E : XK) (F : SF) : TS := fun D σ H => ∃ ρ α μ, Stor C H α μ ∧ Sl C H α μ σ ρ ∧ QS C E D H α μ (F ρ μ)
def DS (X : Cx) (T : List (Addr × Str)) (E : XK) (st : Stmt) (F : SF) : Prop := PS X st (tS (CvX X T) E F)
def DSs (X : Cx) (T : List (Addr × Str)) (E : XK) (st : List Stmt) (F : SF) : Prop := PSs X st (tS (CvX X T) E F)
section
variable {C : Cv} {E : XK} {D : Ends} {Q : VK} {H : Hp} {α : Al} {μ : Sto} {σ : L2.St} {ρ : Mi.Env} {f : EF}
theorem tD_bindS {Q' : VK} {k : W → Sto → RS} (S : Stor C H α μ) (sl : Sl C H α μ σ ρ) (h : QS C E D H α μ ((f ρ μ).bindS k))
    (cont : ∀ v w H1 α1 μ1, Step H α μ H1 α1 μ1 → Stor C H1 α1 μ1 → Sl C H1 α1 μ1 σ ρ → RpW C H1 α1 μ1 v w → QS C E D H1 α1 μ1 (k w μ1) → Q' v H1) : tD C E f σ H Q' := by
  refine ⟨ρ, α, μ, S, sl, ?_⟩
  cases e : f ρ μ with
  | ok w μ1 =>
    rw [e] at h
    exact fun v H1 α1 st S1 r => cont v w H1 α1 μ1 st S1 (sl.step st) r (QS.step (r := k w μ1) h st)
  | er x μ1 => rw [e] at h; exact h
  | no => rw [e] at h; exact (show False from h).elim
theorem QS.nx (S : Stor C H α μ) (sl : Sl C H α μ σ ρ) (h : QS C E D H α μ (.nx ρ μ)) : D.nx σ H := h σ H α (.refl _ _ _) S sl
theorem QS.rt {v : V} {w : W} (S : Stor C H α μ) (r : RpW C H α μ v w) (h : QS C E D H α μ (.rt w μ)) : D.rt v H := h v H α (.refl _ _ _) S r
theorem tS_seq {F G : SF} (h : tS C E (sSeq F G) D σ H) : tS C E F { D with nx := tS C E G D } σ H := by
  obtain ⟨ρ, α, μ, S, sl, q⟩ := h
  refine ⟨ρ, α, μ, S, sl, ?_⟩
  unfold sSeq at q
  cases e : F ρ μ with
  | nx ρ1 μ1 =>
    rw [e] at q
    exact fun σ' H' α' st S' sl' => ⟨ρ1, α', μ1, S', sl', QS.step q st⟩
  | rt w μ' => rw [e] at q; exact q
  | bk w μ' => rw [e] at q; exact q
  | ct w μ' => rw [e] at q; exact q
  | er x μ' => rw [e] at q; exact q
  | no => rw [e] at q; exact q
theorem tD_testS {Q' : VK} {k : Bool → Sto → RS} (S : Stor C H α μ) (sl : Sl C H α μ σ ρ) (h : QS C E D H α μ (RS.test (f ρ μ) k))
    (cont : ∀ b H1 α1 μ1, Step H α μ H1 α1 μ1 → Stor C H1 α1 μ1 → Sl C H1 α1 μ1 σ ρ → QS C E D H1 α1 μ1 (k b μ1) → Q' (.bl b) H1) : tD C E f σ H Q' := by
  refine tD_bindS (D := D) S sl h fun v w H1 α1 μ1 st S1 sl1 r q => ?_
  cases w with
  | d d =>
    cases d with
    | bool b => cases r; exact cont b H1 α1 μ1 st S1 sl1 q
    | none => exact (show False from q).elim
    | int i => exact (show False from q).elim
    | str i => exact (show False from q).elim
    | list i => exact (show False from q).elim
    | tuple i => exact (show False from q).elim
    | dict i => exact (show False from q).elim
  | m k => exact (show False from q).elim
  | f k => exact (show False from q).elim
  | x k => exact (show False from q).elim
/-! ### one's own list is written, or given away -/
theorem own_set {k : Nat} {o : Option Cell} {a : Addr} (h : Own α (μ.set k o) a) : Own α μ a ∨ (∃ c, o = some c ∧ α.own[k]? = some a) := by
  rcases h with ⟨j, c, h1, h2⟩ | h
  · by_cases e : k = j
    · subst e
      rw [List.getElem?_set] at h2
      simp only [if_true] at h2
      split at h2
      · exact .inr ⟨c, by simpa using h2, h1⟩
      · cases h2
    · rw [List.getElem?_set_ne e] at h2
      exact .inl (.inl ⟨j, c, h1, h2⟩)
  · exact .inl (.inr h)
theorem own_set' {k : Nat} {c c' : Cell} {a : Addr} (hk : μ[k]? = some (some c)) : Own α (μ.set k (some c')) a ↔ Own α μ a := by
  constructor
  · intro h
    rcases own_set h with h | ⟨_, _, h⟩
    · exact h
    · exact .inl ⟨k, c, h, hk⟩
  · rintro (⟨j, d, h1, h2⟩ | h)
    · by_cases e : k = j
      · subst e
        exact .inl ⟨k, c', h1, by rw [List.getElem?_set_self (List.getElem?_eq_some_iff.mp hk).1]⟩
      · exact .inl ⟨j, d, h1, by rw [List.getElem?_set_ne e]; exact h2⟩
    · exact .inr h
theorem nodup_at : ∀ {l : List Addr} {k j : Nat} {a : Addr}, l.Nodup → l[k]? = some a → l[j]? = some a → k = j
  | [], _, _, _, _, h, _ => by simp at h
  | x :: l, 0, 0, a, _, _, _ => rfl
  | x :: l, 0, j + 1, a, n, h1, h2 => by
    have e : x = a := by simpa using h1
    subst e
    exact absurd (List.mem_of_getElem? (by simpa using h2)) (List.nodup_cons.mp n).1
  | x :: l, k + 1, 0, a, n, h1, h2 => by
    have e : x = a := by simpa using h2
    subst e
    exact absurd (List.mem_of_getElem? (by simpa using h1)) (List.nodup_cons.mp n).1
  | x :: l, k + 1, j + 1, a, n, h1, h2 => congrArg (· + 1) (nodup_at (List.nodup_cons.mp n).2 (by simpa using h1) (by simpa using h2))
theorem Stor.uniq (S : Stor C H α μ) {k j : Nat} {a : Addr} (h1 : α.own[k]? = some a) (h2 : α.own[j]? = some a) : k = j := by
  exact nodup_at (List.nodup_append.mp S.nd).1 h1 h2
theorem Stor.nohid (S : Stor C H α μ) {k : Nat} {a : Addr} (h1 : α.own[k]? = some a) : a ∉ α.hid := fun z =>
  (List.nodup_append.mp S.nd).2.2 a (List.mem_of_getElem? h1) a z rfl
/-- a changing list is written -/
theorem own_write (S : Stor C H α μ) {k : Nat} {l l' : List PyData} {a : Addr} {xs' : List V} (hk : μ[k]? = some (some (.lst l))) (ha : α.own[k]? = some a) (r : RpAll C.K H (Own α μ) xs' l') :
    Step H α μ (upd H a (.lst xs')) α (μ.set k (some (.lst l'))) ∧ Stor C (upd H a (.lst xs')) α (μ.set k (some (.lst l'))) := by
  obtain ⟨a', ha', xs, hx, rx⟩ := S.cell k _ hk
  rw [ha] at ha'; cases ha'
  have oa : Own α μ a := .inl ⟨k, _, ha, hk⟩
  have st : Step H α μ (upd H a (.lst xs')) α (μ.set k (some (.lst l'))) := by
    refine ⟨⟨fun b o h n _ => ⟨?_, fun z => n ((own_set' hk).mp z)⟩, fun b ys h => ?_, fun b o u h => ?_⟩, fun _ _ h => h, rfl, fun b hb => ?_⟩
    · rw [upd_ne (fun e => n (by rw [e]; exact oa))]; exact h
    · rw [upd_ne (fun e => by rw [e, hx] at h; cases h)]; exact h
    · rw [upd_ne (fun e => by rw [e, hx] at h; cases h)]; exact h
    · rw [upd_ne (fun e => S.nohid ha (by rw [← e]; exact hb))]
  refine ⟨st, by rw [List.length_set]; exact S.len, S.nd, fun b hb => ?_, fun j c h => ?_, ?_⟩
  · by_cases e : b = a
    · rw [e]; exact ⟨_, upd_same, fun _ z => by cases z⟩
    · rw [upd_ne e]; exact S.there b hb
  · by_cases e : k = j
    · subst e
      rw [List.getElem?_set_self (List.getElem?_eq_some_iff.mp hk).1] at h
      cases h
      exact ⟨a, ha, xs', upd_same, r.ext st.ext⟩
    · rw [List.getElem?_set_ne e] at h
      obtain ⟨b, h1, h2⟩ := S.cell j c h
      have ne : b ≠ a := fun z => e (S.uniq ha (by rw [← z]; exact h1))
      refine ⟨b, h1, ?_⟩
      cases c with
      | lst l => obtain ⟨ys, e1, e2⟩ := h2; exact ⟨ys, by rw [upd_ne ne]; exact e1, e2.ext st.ext⟩
      | ins c fs => obtain ⟨A, dx, gs, e1, e2, e3, e4⟩ := h2; exact ⟨A, dx, gs, e1, by rw [upd_ne ne]; exact e2, e3, e4.ext st.ext⟩
  · intro p hp
    obtain ⟨ps, h1, h2, h3⟩ := S.tabs p hp
    have ne : p.1 ≠ a := fun e => by rw [e, hx] at h1; cases h1
    refine ⟨ps, by rw [upd_ne ne]; exact h1, h2, fun pos cv hc => ?_⟩
    obtain ⟨c, e1, e2⟩ := h3 pos cv hc
    refine ⟨c, e1, ?_⟩
    rw [upd_ne (fun e => by rw [e, hx] at e2; cases e2)]
    exact e2
/-- a changing list becomes plain data -/
theorem own_give (S : Stor C H α μ) {k : Nat} {l : List PyData} {a : Addr} (hk : μ[k]? = some (some (.lst l))) (ha : α.own[k]? = some a) :
    Step H α μ H α (μ.set k none) ∧ Stor C H α (μ.set k none) ∧ Rp C.K H (Own α (μ.set k none)) (.ref a) (.list l) := by
  obtain ⟨a', ha', xs, hx, rx⟩ := S.cell k _ hk
  rw [ha] at ha'; cases ha'
  have st : Step H α μ H α (μ.set k none) := by
    refine ⟨⟨fun b o h n _ => ⟨h, fun z => ?_⟩, fun b ys h => h, fun b o u h => h⟩, fun _ _ h => h, rfl, fun b hb => rfl⟩
    rcases own_set z with z | ⟨c, z, _⟩
    · exact n z
    · cases z
  refine ⟨st, ⟨by rw [List.length_set]; exact S.len, S.nd, S.there, fun j c h => ?_, S.tabs⟩, .lst (.inl hx) (fun z => ?_) (rx.ext st.ext)⟩
  · by_cases e : k = j
    · subst e
      rw [List.getElem?_set_self (List.getElem?_eq_some_iff.mp hk).1] at h
      cases h
    · rw [List.getElem?_set_ne e] at h
      obtain ⟨b, h1, h2⟩ := S.cell j c h
      refine ⟨b, h1, ?_⟩
      cases c with
      | lst l => obtain ⟨ys, e1, e2⟩ := h2; exact ⟨ys, e1, e2.ext st.ext⟩
      | ins c fs => obtain ⟨A, dx, gs, e1, e2, e3, e4⟩ := h2; exact ⟨A, dx, gs, e1, e2, e3, e4.ext st.ext⟩
  · rcases z with ⟨j, c, h1, h2⟩ | z
    · have e := S.uniq ha h1
      subst e
      rw [List.getElem?_set_self (List.getElem?_eq_some_iff.mp hk).1] at h2
      cases h2
    · exact S.nohid ha z
end

section
variable {X : Cx} {T : List (Addr × Str)} {E : XK} {j : Nat} {pos : Pos} {a b c : Expr} {f g h : EF} {st : Stmt} {rest body : List Stmt} {F G : SF}
theorem dss_nil : DSs X T E [] sNil := pss_imp pss_nil fun D σ H ⟨ρ, α, μ, S, sl, q⟩ => QS.nx S sl q
theorem dss_cons (h1 : DS X T E st F) (h2 : DSs X T E rest G) : DSs X T E (st :: rest) (sSeq F G) := pss_imp (pss_cons h1 h2) fun D σ H q => tS_seq q
theorem dss_one (h1 : DS X T E st F) : DSs X T E [st] F := pss_one h1
theorem ds_pass : DS X T E (.Pass pos) sNil := ps_imp ps_pass fun D σ H ⟨ρ, α, μ, S, sl, q⟩ => QS.nx S sl q
theorem ds_break : DS X T E (.Break pos) sBreak := ps_imp ps_break fun D σ H ⟨ρ, α, μ, S, sl, q⟩ => q σ H α (.refl _ _ _) S sl
theorem ds_cont : DS X T E (.Continue pos) sCont := ps_imp ps_continue fun D σ H ⟨ρ, α, μ, S, sl, q⟩ => q σ H α (.refl _ _ _) S sl
theorem ds_expr (ha : DE X T E a f) (hs : swapsWith a none pos.line X.env = pure false := by rfl) : DS X T E (.Expr a pos) (sDrop f) :=
  ps_imp (ps_expr ha hs) fun D σ H ⟨ρ, α, μ, S, sl, q⟩ => tD_bindS S sl q fun v w H1 α1 μ1 st S1 sl1 r q1 => QS.nx S1 sl1 q1
theorem ds_ret (ha : DE X T E a f) : DS X T E (.Return (some a) pos) (sRet f) :=
  ps_imp (ps_ret ha) fun D σ H ⟨ρ, α, μ, S, sl, q⟩ => tD_bindS S sl q fun v w H1 α1 μ1 st S1 sl1 r q1 => QS.rt S1 r q1
theorem ds_retN : DS X T E (.Return none pos) (sRet eNon) :=
  ps_imp ps_retN fun D σ H ⟨ρ, α, μ, S, sl, q⟩ => QS.rt (w := .d .none) S .non q
theorem ds_retF (ha : DE X T E a f) : DS X T E (.Return (some a) pos) (sRetF f) :=
  ps_imp (ps_ret ha) fun D σ H ⟨ρ, α, μ, S, sl, q⟩ => tD_bindS S sl q fun v w H1 α1 μ1 st S1 sl1 r q1 => by
    cases w with
    | d d => exact QS.rt S1 r q1
    | f x => exact (show False from q1).elim
    | x k => exact (show False from q1).elim
    | m k =>
      obtain ⟨a, ha, rfl⟩ := r
      cases e : mlist μ1 k with
      | none => simp [Mi.view, e] at q1; exact (show False from q1).elim
      | some l =>
        simp [Mi.view, e] at q1
        obtain ⟨st2, S2, r2⟩ := own_give S1 (mlist_at e) ha
        exact q1 _ _ _ st2 S2 r2
theorem ds_set (i : Nat) {x : Str} {p' : Pos} (ck : CK X E j) (ha : DE X T E a f) (hi : X.N[i]? = some x := by rfl) (hx : Loc X.env.scope x := by first | exact Or.inl rfl | exact Or.inr rfl) (hs : swapsWith a (some (.Name x p')) pos.line X.env = pure false := by rfl)
    (hf : X.fn x = true ∨ X.env.scope.names.lookup x = some .local := by first | exact Or.inl rfl | exact Or.inr rfl) : DS X T E (.Assign [.Name x p'] a pos) (sAsg i f) :=
  ps_imp (ps_set ck.nd hi hx ha hs hf) fun D σ H ⟨ρ, α, μ, S, sl, q⟩ => tD_bindS S sl q fun v w H1 α1 μ1 st S1 sl1 r q1 => QS.nx S1 (sl1.set r i) q1
theorem ds_setN (i : Nat) {x : Str} {p' : Pos} (nd : X.N.Nodup) (ha : DE X T E a f) (hi : X.N[i]? = some x := by rfl) (hx : Loc X.env.scope x := by first | exact Or.inl rfl | exact Or.inr rfl) (hs : swapsWith a (some (.Name x p')) pos.line X.env = pure false := by rfl)
    (hf : X.fn x = true ∨ X.env.scope.names.lookup x = some .local := by first | exact Or.inl rfl | exact Or.inr rfl) : DS X T E (.Assign [.Name x p'] a pos) (sAsg i f) :=
  ps_imp (ps_set nd hi hx ha hs hf) fun D σ H ⟨ρ, α, μ, S, sl, q⟩ => tD_bindS S sl q fun v w H1 α1 μ1 st S1 sl1 r q1 => QS.nx S1 (sl1.set r i) q1
theorem ds_par (i k : Nat) {x y : Str} {px py pt : Pos} {kt k2 pt2} (ck : CK X E j) (ha : DE X T E a f) (hb : DE X T E b g) (hi : X.N[i]? = some x := by rfl) (hj : X.N[k]? = some y := by rfl) (hij : i ≠ k := by decide) (hx : X.env.scope.names.lookup x = some .local := by rfl) (hy : X.env.scope.names.lookup y = some .local := by rfl)
    (hw : swappedStores [.Tuple [.Name x px, .Name y py] kt pt] (.Tuple [a, b] k2 pt2) X.env = pure (some [x, y]) := by rfl)
    (hs : swapsWithSole [.Tuple [.Name x px, .Name y py] kt pt] (.Tuple [a, b] k2 pt2) pos.line X.env = pure false := by rfl)
    (hs1 : starEach [a, b] X.env = (false, eval a X.env) :: starEach [b] X.env := by rfl) (hs2 : starEach [b] X.env = (false, eval b X.env) :: starEach [] X.env := by rfl) :
    DS X T E (.Assign [.Tuple [.Name x px, .Name y py] kt pt] (.Tuple [a, b] k2 pt2) pos) (sPar i k f g) :=
  ps_imp (ps_par ck.calm ck.nd hi hj hij hx hy (pa_cons ha (pa_cons hb pa_nil hs2) hs1) hw hs) fun D σ H ⟨ρ, α, μ, S, sl, q⟩ => tD_bindS S sl q fun v w H1 α1 μ1 st S1 sl1 r q1 => tD_bindS S1 sl1 q1 fun v2 w2 H2 α2 μ2 st2 S2 sl2 r2 q2 =>
    ⟨v, v2, rfl, QS.nx S2 ((sl2.set (r.step st2) i).set r2 k) q2⟩
theorem ds_if (hc : DT X T E c f) (h1 : DSs X T E body F) (h2 : DSs X T E rest G) : DS X T E (.If c body rest pos) (sIf f F G) :=
  ps_imp (ps_if hc h1 h2) fun D σ H ⟨ρ, α, μ, S, sl, q⟩ => tD_testS S sl q fun k H1 α1 μ1 st S1 sl1 q1 => ⟨k, rfl, by
    cases k with
    | true => rw [if_pos rfl] at q1 ⊢; exact ⟨ρ, α1, μ1, S1, sl1, q1⟩
    | false => rw [if_neg Bool.false_ne_true] at q1 ⊢; exact ⟨ρ, α1, μ1, S1, sl1, q1⟩⟩
/-! ### targets -/
/-- only these slots are otherwise -/
def Only (ks : List Nat) (σ σ1 : L2.St) : Prop := σ1.length = σ.length ∧ ∀ k, k ∉ ks → σ1[k]? = σ[k]?
theorem wipe_at (σ : L2.St) (k : Nat) : ∀ vs : List Nat, (L2.wipe σ vs)[k]? = if k ∈ vs then (σ[k]?).map fun _ => none else σ[k]?
  | [] => by simp [L2.wipe]
  | i :: r => by
    have ih := wipe_at σ k r
    show ((L2.wipe σ r).set i none)[k]? = _
    by_cases e : i = k
    · subst e
      rw [List.getElem?_set]
      simp only [if_true, List.mem_cons, true_or]
      split
      · rename_i h
        rw [L2.wipe_length] at h
        rw [List.getElem?_eq_getElem h]
        rfl
      · rename_i h
        rw [L2.wipe_length] at h
        rw [List.getElem?_eq_none (by omega)]
        rfl
    · rw [List.getElem?_set_ne e, ih]
      have : (k ∈ i :: r) ↔ k ∈ r := by
        rw [List.mem_cons]
        exact ⟨fun h => h.elim (fun z => absurd z.symm e) id, .inr⟩
      simp only [this]
theorem Only.wipe {ks vs : List Nat} {σ σ1 : L2.St} (h : Only ks σ σ1) (hs : ∀ k ∈ ks, k ∈ vs) : L2.wipe σ1 vs = L2.wipe σ vs := by
  refine List.ext_getElem? fun k => ?_
  rw [wipe_at, wipe_at]
  by_cases hk : k ∈ vs
  · rw [if_pos hk, if_pos hk]
    have l1 := h.1
    by_cases hl : k < σ.length
    · rw [List.getElem?_eq_getElem (show k < σ1.length by omega), List.getElem?_eq_getElem hl]
      rfl
    · rw [List.getElem?_eq_none (show σ1.length ≤ k by omega), List.getElem?_eq_none (show σ.length ≤ k by omega)]
  · rw [if_neg hk, if_neg hk]
    exact h.2 k fun z => hk (hs k z)
def tG (C : Cv) (t : TF) (ks : List Nat) : TG := fun v σ H Q => ∃ ρ α μ d ρ1, Stor C H α μ ∧ Sl C H α μ σ ρ ∧ Rp C.K H (Own α μ) v d ∧ t d ρ = some ρ1 ∧ ∀ σ1, Only ks σ σ1 → Sl C H α μ σ1 ρ1 → Q σ1 H
def DG (X : Cx) (T : List (Addr × Str)) (tg : Expr) (t : TF) (ks : List Nat) : Prop := PG X tg (tG (CvX X T) t ks)
theorem pg_imp {tg : Expr} {t t' : TG} (h : PG X tg t) (i : ∀ v σ H Q, t' v σ H Q → t v σ H Q) : PG X tg t' := ⟨fun pins s σ H v u Q I r q => h.run pins s σ H v u Q I r (i _ _ _ _ q)⟩
theorem pgs_imp {tg : List Expr} {t t' : TGs} (h : PGs X tg t) (i : ∀ v σ H Q, t' v σ H Q → t v σ H Q) : PGs X tg t' := ⟨fun pins s σ H v u Q I r q => h.run pins s σ H v u Q I r (i _ _ _ _ q)⟩
theorem dg_name (i : Nat) {x : Str} (nd : X.N.Nodup) (hi : X.N[i]? = some x := by rfl) (hx : Loc X.env.scope x := by first | exact Or.inl rfl | exact Or.inr rfl) (hf : X.fn x = true ∨ X.env.scope.names.lookup x = some .local := by first | exact Or.inl rfl | exact Or.inr rfl) : DG X T (.Name x pos) (tName i) [i] :=
  pg_imp (pg_name nd hi hx hf) fun v σ H Q ⟨ρ, α, μ, d, ρ1, S, sl, r, e, q⟩ => by
    cases e
    exact q _ ⟨by simp, fun k hk => List.getElem?_set_ne fun e => hk (by simp [e])⟩ (sl.set (w := .d d) r i)
structure DGs (X : Cx) (T : List (Addr × Str)) (es : List Expr) (ts : List TF) (ks : List Nat) : Prop where
  pgs : PGs X es (fun vs σ H Q => ∃ ρ α μ ds ρ1, Stor (CvX X T) H α μ ∧ Sl (CvX X T) H α μ σ ρ ∧ RpAll X.K H (Own α μ) vs ds ∧ tTups ts ds ρ = some ρ1 ∧ ∀ σ1, Only ks σ σ1 → Sl (CvX X T) H α μ σ1 ρ1 → Q σ1 H)
  len : es.length = ts.length
theorem dgs_nil : DGs X T [] [] [] := by
  refine ⟨pgs_imp pgs_nil fun v σ H Q ⟨ρ, α, μ, ds, ρ1, S, sl, r, e, q⟩ => ?_, rfl⟩
  cases r with
  | nil => cases e; exact ⟨rfl, q _ ⟨rfl, fun _ _ => rfl⟩ sl⟩
  | cons r t => cases e
theorem Only.trans {ks ls : List Nat} {σ σ1 σ2 : L2.St} (a : Only ks σ σ1) (b : Only ls σ1 σ2) : Only (ks ++ ls) σ σ2 :=
  ⟨b.1.trans a.1, fun k hk => (b.2 k fun z => hk (List.mem_append_right _ z)).trans (a.2 k fun z => hk (List.mem_append_left _ z))⟩
theorem dgs_cons {t : TF} {ts : List TF} {es : List Expr} {ks ls : List Nat} (h1 : DG X T a t ks) (h2 : DGs X T es ts ls) (hs : (assignEach (a :: es) X.env).map (·.2) = assign a X.env :: (assignEach es X.env).map (·.2) := by rfl) : DGs X T (a :: es) (t :: ts) (ks ++ ls) := by
  refine ⟨pgs_imp (pgs_cons h1 h2.pgs hs) fun v σ H Q ⟨ρ, α, μ, ds, ρ1, S, sl, r, e, q⟩ => ?_, congrArg (· + 1) h2.len⟩
  cases r with
  | nil => cases e
  | @cons v' vs' d ds r rr =>
    unfold tTups at e
    cases e1 : t d ρ with
    | none => rw [e1] at e; cases e
    | some ρ2 =>
      rw [e1] at e
      exact ⟨_, _, rfl, ρ, α, μ, d, ρ2, S, sl, r, e1, fun σ1 o1 sl1 => ⟨ρ2, α, μ, ds, ρ1, S, sl1, rr, e, fun σ2 o2 sl2 => q σ2 (o1.trans o2) sl2⟩⟩
theorem tTups_len : ∀ {ts : List TF} {ds : List PyData} {ρ ρ1 : Mi.Env}, tTups ts ds ρ = some ρ1 → ts.length = ds.length
  | [], [], _, _, _ => rfl
  | [], _ :: _, _, _, e => by cases e
  | _ :: _, [], _, _, e => by cases e
  | t :: ts, d :: ds, ρ, ρ1, e => by
    unfold tTups at e
    cases e1 : t d ρ with
    | none => rw [e1] at e; cases e
    | some ρ2 => rw [e1] at e; exact congrArg (· + 1) (tTups_len e)
theorem dg_tup {ts : List TF} {es : List Expr} {k : Nat} {ks : List Nat} (hc : X.calm = true) (h : DGs X T es ts ks) (hn : (assignEach es X.env).length = es.length := by rfl) (hst : (assignEach es X.env).findIdx? (·.1) = none := by rfl) : DG X T (.Tuple es k pos) (Mi.tTup ts) ks :=
  pg_imp (pg_tup hc h.pgs hn hst) fun v σ H Q ⟨ρ, α, μ, d, ρ1, S, sl, r, e, q⟩ => by
    unfold Mi.tTup at e
    split at e
    · rename_i ds
      obtain ⟨p1, ys, rfl, h1, r1⟩ := RpT.tuple (.inl r)
      exact ⟨p1, ys, rfl, h1, by rw [r1.length, h.len, tTups_len e], ρ, α, μ, ds, ρ1, S, sl, r1, e, q⟩
    · cases e
theorem dg_unl {ts : List TF} {es : List Expr} {k : Nat} {ks : List Nat} (hc : X.calm = true) (h : DGs X T es ts ks) (hn : (assignEach es X.env).length = es.length := by rfl) (hst : (assignEach es X.env).findIdx? (·.1) = none := by rfl) : DG X T (.Tuple es k pos) (Mi.tUnl ts) ks :=
  pg_imp (pg_unl hc h.pgs hn hst) fun v σ H Q ⟨ρ, α, μ, d, ρ1, S, sl, r, e, q⟩ => by
    unfold Mi.tUnl at e
    split at e
    · rename_i ds
      obtain ⟨p1, ys, rfl, h1, r1⟩ := RpT.list (.inl r)
      exact ⟨p1, ys, rfl, .inl h1, by rw [r1.length, h.len, tTups_len e], ρ, α, μ, ds, ρ1, S, sl, r1, e, q⟩
    · cases e
theorem ds_tgt {tg : Expr} {t : TF} {ks : List Nat} (ha : DE X T E a f) (hg : DG X T tg t ks) (hs : swapsWithSole [tg] a pos.line X.env = pure false := by rfl) (hw : swappedStores [tg] a X.env = pure none := by rfl)
    (h1 : (assignEach [tg] X.env).map (·.2) = [assign tg X.env] := by rfl) : DS X T E (.Assign [tg] a pos) (sTgt t f) :=
  ps_imp (ps_asg ha hg hs hw h1) fun D σ H ⟨ρ, α, μ, S, sl, q⟩ => tD_bindS S sl q fun v w H1 α1 μ1 st S1 sl1 r q1 => by
    cases w with
    | d d =>
      dsimp only at q1
      split at q1
      · rename_i ρ1 e
        exact ⟨ρ, α1, μ1, d, ρ1, S1, sl1, r, e, fun σ1 _ sl2 => QS.nx S1 sl2 q1⟩
      · exact (show False from q1).elim
    | m k => exact (show False from q1).elim
    | f k => exact (show False from q1).elim
    | x k => exact (show False from q1).elim
/-! ### lists that change -/
theorem de_app {p' : Pos} (ha : DE X T E a f) (hb : DE X T E b g) (hbase : attributeBase a "append" X.env (eval a X.env) = eval a X.env := by rfl)
    (hfew : ((backTo pos (starEach [b] X.env)).all (fun x => !x.1) && (backToKw pos (keywordEach [] X.env)).all (fun x => x.1.isSome) && decide ([b].length + ([] : List Keyword).length + (if ([] : List Keyword).isEmpty then 0 else 1) < 30)) = true := by rfl)
    (hline : (p'.endLine == pos.line) = true := by rfl) (hs : starEach [b] X.env = (false, eval b X.env) :: starEach [] X.env := by rfl) (hpl : (backTo pos (starEach [] X.env)).any (·.1) = false := by rfl) :
    DE X T E (.Call (.Attribute a "append" p') [b] [] pos) (eApp f g) :=
  pe_imp (pe_bm PySem.F.plainAttrs_list PySem.F.slot_list_append PySem.F.type_list_append mt_append ha (pa_cons hb pa_nil hs) hbase hfew hline hs hpl) fun σ H Q ⟨ρ, α, μ, S, sl, q⟩ =>
    tD_bind S sl q fun v w H1 α1 μ1 st S1 sl1 r q1 => by
      cases w with
      | d d => exact (show False from q1).elim
      | f k => exact (show False from q1).elim
      | x k => exact (show False from q1).elim
      | m k =>
        dsimp only at q1
        split at q1
        · rename_i l0 e0
          obtain ⟨p1, hp, rfl⟩ := r
          obtain ⟨p1', hp', xs0, hx0, _⟩ := S1.cell k _ (mlist_at e0)
          rw [hp] at hp'; cases hp'
          refine ⟨.inl ⟨rfl, xs0, .inl (.inl hx0)⟩, ?_⟩
          refine tD_bind S1 sl1 q1 fun v2 w2 H2 α2 μ2 st2 S2 sl2 r2 q2 => ?_
          split at q2
          · rename_i d l e1
            split at q2
            · rename_i hl
              have hp2 := st2.pre _ _ hp
              obtain ⟨p2, hp', xs, hx, rx⟩ := S2.cell k _ (mlist_at e1)
              rw [hp2] at hp'; cases hp'
              obtain ⟨st3, S3⟩ := own_write S2 (mlist_at e1) hp2 (rx.append (.cons r2 .nil))
              exact ⟨p1, xs, v2, rfl, rfl, hx, by rw [rx.length]; exact Nat.lt_of_lt_of_le hl (by decide), q2 .non _ α2 st3 S3 .non⟩
            · exact (show False from q2).elim
          · exact (show False from q2).elim
        · exact (show False from q1).elim
/-- o[i] = e -/
theorem ds_sub {p' : Pos} (hv : DE X T E c h) (ho : DE X T E a f) (hi : DE X T E b g) (hs : swapsWithSole [.Subscript a b p'] c pos.line X.env = pure false := by rfl) (hw : swappedStores [.Subscript a b p'] c X.env = pure none := by rfl)
    (h1 : (assignEach [.Subscript a b p'] X.env).map (·.2) = [assign (.Subscript a b p') X.env] := by rfl)
    (ha : ∀ v, assign (.Subscript a b p') X.env v = (do
      let ov ← holding [v] (eval a X.env)
      let iv ← holding [v, ov] (eval b X.env)
      standAt p'
      holding [v, ov, iv] (setItem ov iv v)
      release [v, ov, iv] []) := by intro _; rfl) : DS X T E (.Assign [.Subscript a b p'] c pos) (sSub f g h) :=
  ps_imp (ps_asg hv (pg_sub ho hi set_list ha) hs hw h1) fun D σ H ⟨ρ, α, μ, S, sl, q⟩ => tD_bindS S sl q fun v w H1 α1 μ1 st1 S1 sl1 r1 q1 =>
    tD_bindS S1 sl1 q1 fun v2 w2 H2 α2 μ2 st2 S2 sl2 r2 q2 => tD_bindS S2 sl2 q2 fun v3 w3 H3 α3 μ3 st3 S3 sl3 r3 q3 => by
      split at q3
      · rename_i d k n
        split at q3
        · rename_i l e1
          split at q3
          · rename_i p e2
            obtain ⟨p1, hp, rfl⟩ := r2
            have hp3 := st3.pre _ _ hp
            obtain ⟨p2, hp', xs, hx, rx⟩ := S3.cell k _ (mlist_at e1)
            rw [hp3] at hp'; cases hp'
            have hn : v3 = .int n := RpT.int (.inl r3)
            subst hn
            obtain ⟨st4, S4⟩ := own_write S3 (mlist_at e1) hp3 (rx.set ((r1.step st2).step st3) p)
            refine ⟨p1, xs, n, p, rfl, rfl, hx, ?_, q3 σ _ α3 st4 S4 (sl3.step st4)⟩
            rw [rx.length]
            exact e2
          · exact (show False from q3).elim
        · exact (show False from q3).elim
      · exact (show False from q3).elim
end
end L3

set_option Elab.async false
set_option linter.all false
set_option maxRecDepth 100000
/-! What is walked; for, while, comprehensions. -/
namespace L3
open PySem PySem.Spec PyProof.Rows L2 Mi

/-- the iterator hands out these things, whatever comes -/
def Yields (C : Cv) (J : It) (l : List PyData) (H : Hp) (M : Addr → Prop) : Prop := ∀ i H2 M2, Ext H M H2 M2 → (∀ a, H2 a = none → ¬ M2 a) →
  (∀ d, l[i]? = some d → J.go i H2 ∧ ∀ x H', J.yld i H2 x H' → Same H2 H' ∧ Rp C.K H' M2 x d) ∧ (l.length ≤ i → J.stop i H2)
def tI (C : Cv) (E : XK) (it : IF) : TI := fun σ H R => ∃ ρ α μ, Stor C H α μ ∧ Sl C H α μ σ ρ ∧ (match it ρ μ with
  | .ok l μ1 => ∀ J H1 α1, Step H α μ H1 α1 μ1 → Stor C H1 α1 μ1 → l.length ≤ sizeLine → Yields C J l H1 (Own α1 μ1) → R J H1
  | .er x μ1 => ∀ cls d H1 α1, Step H α μ H1 α1 μ1 → Stor C H1 α1 μ1 → RpX C H1 cls d x → E cls d H1
  | .no => False)
def DI (X : Cx) (T : List (Addr × Str)) (E : XK) (tg e : Expr) (it : IF) : Prop := PI X tg e (tI (CvX X T) E it)
theorem pi_imp {X : Cx} {tg e : Expr} {t t' : TI} (h : PI X tg e t) (i : ∀ σ H Q, t' σ H Q → t σ H Q) : PI X tg e t' := ⟨fun pins s σ H Q I q => h.run pins s σ H Q I (i _ _ _ q)⟩
theorem pi_impI {X : Cx} {tg e : Expr} {t t' : TI} (h : PI X tg e t) (i : ∀ pins s σ H Q, Inv X pins σ H s → t' σ H Q → t σ H Q) : PI X tg e t' := ⟨fun pins s σ H Q I q => h.run pins s σ H Q I (i _ _ _ _ _ I q)⟩
section
variable {C : Cv} {E : XK} {H : Hp} {α : Al} {μ : Sto} {σ : L2.St} {ρ : Mi.Env} {f g : EF}
theorem tD_bindI {Q' : VK} {k : W → Sto → R (List PyData)} {R' : It → Hp → Prop} (S : Stor C H α μ) (sl : Sl C H α μ σ ρ) (h : match (f ρ μ).bind k with
    | .ok l μ1 => ∀ J H1 α1, Step H α μ H1 α1 μ1 → Stor C H1 α1 μ1 → l.length ≤ sizeLine → Yields C J l H1 (Own α1 μ1) → R' J H1
    | .er x μ1 => ∀ cls d H1 α1, Step H α μ H1 α1 μ1 → Stor C H1 α1 μ1 → RpX C H1 cls d x → E cls d H1
    | .no => False)
    (cont : ∀ v w H1 α1 μ1, Step H α μ H1 α1 μ1 → Stor C H1 α1 μ1 → Sl C H1 α1 μ1 σ ρ → RpW C H1 α1 μ1 v w → (match k w μ1 with
    | .ok l μ2 => ∀ J H2 α2, Step H1 α1 μ1 H2 α2 μ2 → Stor C H2 α2 μ2 → l.length ≤ sizeLine → Yields C J l H2 (Own α2 μ2) → R' J H2
    | .er x μ2 => ∀ cls d H2 α2, Step H1 α1 μ1 H2 α2 μ2 → Stor C H2 α2 μ2 → RpX C H2 cls d x → E cls d H2
    | .no => False) → Q' v H1) : tD C E f σ H Q' := by
  refine ⟨ρ, α, μ, S, sl, ?_⟩
  cases e : f ρ μ with
  | ok w μ1 =>
    rw [e, Mi.R.bind_ok] at h
    intro v H1 α1 st S1 r
    refine cont v w H1 α1 μ1 st S1 (sl.step st) r ?_
    cases e2 : k w μ1 with
    | ok l μ2 => rw [e2] at h; exact fun J H2 α2 s S2 z y => h J H2 α2 (st.trans s) S2 z y
    | er x μ2 => rw [e2] at h; exact fun cls d H2 α2 s S2 z => h cls d H2 α2 (st.trans s) S2 z
    | no => rw [e2] at h; exact h
  | er x μ1 => rw [e] at h; exact h
  | no => rw [e] at h; exact h.elim
theorem yields_list {M : Addr → Prop} {a : Addr} {xs : List V} {ds : List PyData} (hx : Rd H a (.lst xs)) (n : ¬ M a) (r : RpAll C.K H M xs ds) : Yields C (Itl C.K a) ds H M := by
  intro i H2 M2 st _
  have h2 : SqL C.K H2 a xs := .inl (st.rd hx n).1
  have r2 := r.ext st
  refine ⟨fun d e => ?_, fun h => ⟨xs, h2, by rw [r2.length]; exact h⟩⟩
  obtain ⟨v, h3, h4⟩ := r2.get e
  refine ⟨⟨xs, v, h2, h3⟩, fun x H' y => ?_⟩
  obtain ⟨e', y⟩ := y
  subst e'
  have e2 := y xs h2
  rw [h3] at e2; cases e2
  exact ⟨.refl _, h4⟩
theorem yields_tup {M : Addr → Prop} {a : Addr} {xs : List V} {ds : List PyData} (hx : SqT C.K H a xs) (r : RpAll C.K H M xs ds) : Yields C (Itt C.K a) ds H M := by
  intro i H2 M2 st _
  have h2 : SqT C.K H2 a xs := st.sqT hx
  have r2 := r.ext st
  refine ⟨fun d e => ?_, fun h => ⟨xs, h2, by rw [r2.length]; exact h⟩⟩
  obtain ⟨v, h3, h4⟩ := r2.get e
  refine ⟨⟨xs, v, h2, h3⟩, fun x H' y => ?_⟩
  obtain ⟨e', y⟩ := y
  subst e'
  have e2 := y xs h2
  rw [h3] at e2; cases e2
  exact ⟨.refl _, h4⟩
theorem yields_str {M : Addr → Prop} (x : Str) : Yields C (Its x) (charsOf x) H M := by
  intro i H2 M2 st _
  refine ⟨fun d e => ?_, fun h => by rw [charsOf, List.length_map, Array.length_toList] at h; exact h⟩
  unfold charsOf at e
  rw [List.getElem?_map] at e
  cases e1 : x.cps.toList[i]? with
  | none => rw [e1] at e; cases e
  | some c =>
    rw [e1] at e
    cases e
    have hi : i < x.cps.size := by
      have := (List.getElem?_eq_some_iff.mp e1).1
      rwa [Array.length_toList] at this
    refine ⟨hi, fun v H' yy => ?_⟩
    obtain ⟨rfl, c', h1, rfl⟩ := yy
    rw [Array.getElem?_toList, h1] at e1
    cases e1
    exact ⟨.refl _, .str _⟩
theorem rangeD_get (a b : Int) {i : Nat} {d : PyData} (h : (rangeD a b)[i]? = some d) : i < (b - a).toNat ∧ d = .int (a + i) := by
  unfold rangeD at h
  rw [List.getElem?_map] at h
  cases e : (List.range (b - a).toNat)[i]? with
  | none => rw [e] at h; cases h
  | some k =>
    rw [e] at h
    cases h
    obtain ⟨h1, h2⟩ := List.getElem?_eq_some_iff.mp e
    rw [List.getElem_range] at h2
    subst h2
    exact ⟨by simpa using h1, rfl⟩
theorem rangeD_len (a b : Int) : (rangeD a b).length = (b - a).toNat := by simp [rangeD]
theorem yields_range {M : Addr → Prop} (a b : Int) : Yields C (Itr a (b - a).toNat) (rangeD a b) H M := by
  intro i H2 M2 st _
  refine ⟨fun d e => ?_, fun h => by rw [rangeD_len] at h; exact h⟩
  obtain ⟨h1, rfl⟩ := rangeD_get a b e
  refine ⟨h1, fun x H' y => ?_⟩
  obtain ⟨e', y⟩ := y
  subst e' y
  exact ⟨.refl _, .int _⟩
end
section
variable {X : Cx} {T : List (Addr × Str)} {E : XK} {j : Nat} {pos : Pos} {tg a b c : Expr} {f g h : EF} {st : Stmt} {rest body : List Stmt} {F G : SF}
theorem list_line {pins : List (Addr × Obj)} {s : Shared} {σ : L2.St} {H : Hp} {p : Addr} {xs : List V} (I : Inv X pins σ H s) (h : SqL X.K H p xs) : xs.length ≤ sizeLine := let ⟨_, _, _, z⟩ := I.list h; z
theorem tup_line {pins : List (Addr × Obj)} {s : Shared} {σ : L2.St} {H : Hp} {p : Addr} {xs : List V} (I : Inv X pins σ H s) (h : SqT X.K H p xs) : xs.length ≤ sizeLine := let ⟨_, _, _, z⟩ := I.tuple h; z
/-- behind an expression the state is one of ours -/
theorem pe_inv {e : Expr} {t : TE} (h : PE X e t) : PE X e (fun σ H Q => t σ H fun v H1 => (∀ pins s, Inv X pins σ H1 s → Q v H1)) :=
  ⟨fun pins s σ H Q I q => thn (h.run pins s σ H _ I q) fun u s' ⟨v, H', I', r, q'⟩ => ⟨v, H', I', r, q' pins s' I'⟩⟩
/-- a list or a tuple, as the data shows -/
theorem di_seq (ha : DE X T E a f) : DI X T E tg a (iSeq f) := by
  refine ⟨fun pins s σ H R' I ⟨ρ, α, μ, S, sl, q⟩ => ?_⟩
  unfold iSeq at q
  cases e : f ρ μ with
  | no => rw [e] at q; exact q.elim
  | er x μ1 =>
    refine (pi_list ha).run pins s σ H R' I ⟨ρ, α, μ, S, sl, ?_⟩
    rw [e] at q ⊢
    exact q
  | ok w μ1 =>
    rw [e, Mi.R.bind_ok] at q
    cases w with
    | m k => exact q.elim
    | f k => exact q.elim
    | x k => exact q.elim
    | d d =>
      cases d with
      | list l =>
        refine (pi_list (pe_inv ha)).run pins s σ H R' I ⟨ρ, α, μ, S, sl, ?_⟩
        rw [e]
        intro v H1 α1 st S1 r pins2 s2 I2
        cases r with
        | lst hx n rr => exact ⟨_, rfl, ⟨_, .inl hx⟩, q _ H1 α1 st S1 (by rw [← rr.length]; exact list_line I2 (.inl hx)) (yields_list hx n rr)⟩
      | tuple l =>
        refine (pi_tup (pe_inv ha)).run pins s σ H R' I ⟨ρ, α, μ, S, sl, ?_⟩
        rw [e]
        intro v H1 α1 st S1 r pins2 s2 I2
        cases r with
        | tup hx rr => exact ⟨_, rfl, ⟨_, hx⟩, q _ H1 α1 st S1 (by rw [← rr.length]; exact tup_line I2 hx) (yields_tup hx rr)⟩
      | none => exact q.elim
      | bool b => exact q.elim
      | int b => exact q.elim
      | str b =>
        refine (pi_str ha).run pins s σ H R' I ⟨ρ, α, μ, S, sl, ?_⟩
        rw [e]
        intro v H1 α1 st S1 r
        cases r
        have q : (match (Mi.ofO (items (.str b)) μ1 : R (List PyData)) with
          | .ok l μ1 => ∀ J H1 α1, Step H α μ H1 α1 μ1 → Stor (CvX X T) H1 α1 μ1 → l.length ≤ sizeLine → Yields (CvX X T) J l H1 (Own α1 μ1) → R' J H1
          | .er x μ1 => ∀ cls d H1 α1, Step H α μ H1 α1 μ1 → Stor (CvX X T) H1 α1 μ1 → RpX (CvX X T) H1 cls d x → E cls d H1
          | .no => False) := q
        by_cases hl : b.length ≤ LIM
        · rw [show items (.str b) = some (charsOf b) from if_pos hl] at q
          exact ⟨b, rfl, q _ H1 α1 st S1 (by rw [charsOf, List.length_map, Array.length_toList]; exact lim_line hl) (yields_str b)⟩
        · rw [show items (.str b) = none from if_neg hl] at q
          exact q.elim
      | dict b => exact q.elim
theorem di_range1 {p : Pos} (ha : DE X T E a f) (hm : X.mg "range" = none) (hg : Gl X "range" := by rfl) (hs : starEach [a] X.env = [(false, eval a X.env)] := by rfl) : DI X T E tg (.Call (.Name "range" p) [a] [] pos) (iRange1 f) :=
  pi_imp (pi_range1 hg hm (pa_cons ha pa_nil hs) hs) fun σ H R ⟨ρ, α, μ, S, sl, q⟩ => tD_bindI S sl q fun v w H1 α1 μ1 st S1 sl1 r q1 => by
    split at q1
    · rename_i l μ2 e
      split at e
      · rename_i b
        split at e
        · rename_i hb
          cases e
          have hv : v = .int b := RpT.int (.inl r)
          subst hv
          have hL : (LIM : Int) = 1000000 := rfl
          refine ⟨b, rfl, by omega, by omega, ?_⟩
          have y := yields_range (C := CvX X T) (H := H1) (M := Own α1 μ1) 0 b
          have z := q1 _ H1 α1 (.refl _ _ _) S1 (by rw [rangeD_len]; exact Nat.le_trans (show (b - 0).toNat ≤ LIM by unfold LIM; omega) (by decide)) y
          have e0 : (b - 0).toNat = b.toNat := by rw [Int.sub_zero]
          rw [e0] at z
          exact z
        · cases e
      · cases e
    · rename_i x μ2 e
      split at e
      · split at e <;> cases e
      · cases e
    · exact q1.elim
theorem di_range2 {p : Pos} (ha : DE X T E a f) (hb : DE X T E b g) (hm : X.mg "range" = none) (hg : Gl X "range" := by rfl) (hs : starEach [a, b] X.env = [(false, eval a X.env), (false, eval b X.env)] := by rfl) (hs2 : starEach [b] X.env = [(false, eval b X.env)] := by rfl) : DI X T E tg (.Call (.Name "range" p) [a, b] [] pos) (iRange2 f g) :=
  pi_imp (pi_range2 hg hm (pa_cons ha (pa_cons hb pa_nil hs2) (by rw [hs, hs2])) hs hs2) fun σ H R ⟨ρ, α, μ, S, sl, q⟩ => tD_bindI S sl q fun v w H1 α1 μ1 st S1 sl1 r q1 => tD_bindI S1 sl1 q1 fun v2 w2 H2 α2 μ2 st2 S2 sl2 r2 q2 => by
    split at q2
    · rename_i l μ3 e
      split at e
      · rename_i i k
        split at e
        · rename_i hb
          cases e
          have hv : v = .int i := RpT.int (.inl r)
          have hv2 : v2 = .int k := RpT.int (.inl r2)
          subst hv hv2
          have hL : (LIM : Int) = 1000000 := rfl
          refine ⟨i, k, rfl, by omega, ?_⟩
          exact q2 _ H2 α2 (.refl _ _ _) S2 (by rw [rangeD_len]; exact Nat.le_trans (show (k - i).toNat ≤ 2 * LIM by unfold LIM; omega) (by decide)) (yields_range (C := CvX X T) i k)
        · cases e
      · cases e
    · rename_i x μ3 e
      split at e
      · split at e <;> cases e
      · cases e
    · exact q2.elim
/-! ### for -/
theorem ds_for {t : TF} {it : IF} {ks : List Nat} (ck : CK X E j) (hp : PassesOwn (model X.prog X.w) X.A X.env X.xe) (hi : DI X T E tg a it) (hg : DG X T tg t ks) (hb : DSs X T E body F) (hs : ∀ x, foldedSetIterable a X.env x = pure x := by intro _; rfl) :
    DS X T E (.For tg a body [] pos) (sFor t it F) :=
  ps_imp (ps_for hp ck.calm hi hg hb hs) fun D σ H ⟨ρ, α, μ, S, sl, q⟩ => by
    refine ⟨ρ, α, μ, S, sl, ?_⟩
    unfold sFor at q
    cases e : it ρ μ with
    | no => rw [e] at q; exact q
    | er x μ1 => rw [e] at q; exact q
    | ok l μ1 =>
      rw [e, R.bindS_ok] at q
      intro J H1 α1 st1 S1 hl y
      refine ⟨fun i m σ2 H2 => m = l.length - i ∧ i ≤ l.length ∧ ∃ ρ2 α2 μ2, Step H1 α1 μ1 H2 α2 μ2 ∧ Stor (CvX X T) H2 α2 μ2 ∧ Sl (CvX X T) H2 α2 μ2 σ2 ρ2 ∧ QS (CvX X T) E D H2 α2 μ2 (forL t F (l.drop i) ρ2 μ2),
        ⟨l.length, rfl, Nat.zero_le _, ρ, α1, μ1, .refl _ _ _, S1, sl.step st1, QS.step q st1⟩, ?_⟩
      rintro i m σ2 H2 ⟨rfl, hi, ρ2, α2, μ2, st2, S2, sl2, q2⟩
      obtain ⟨yg, ys⟩ := y i H2 (Own α2 μ2) st2.ext fun _ h => S2.own_ne h
      by_cases hlt : i < l.length
      · obtain ⟨d, hd⟩ : ∃ d, l[i]? = some d := ⟨l[i], List.getElem?_eq_getElem hlt⟩
        have ed : l.drop i = d :: l.drop (i + 1) := by
          rw [List.drop_eq_getElem_cons hlt]
          congr 1
          rw [List.getElem?_eq_getElem hlt] at hd
          exact Option.some.inj hd
        rw [ed] at q2
        obtain ⟨go, yl⟩ := yg d hd
        refine .inr ⟨go, fun σ' H' => l.length - (i + 1) = l.length - (i + 1) ∧ i + 1 ≤ l.length ∧ ∃ ρ2 α2 μ2, Step H1 α1 μ1 H' α2 μ2 ∧ Stor (CvX X T) H' α2 μ2 ∧ Sl (CvX X T) H' α2 μ2 σ' ρ2 ∧ QS (CvX X T) E D H' α2 μ2 (forL t F (l.drop (i + 1)) ρ2 μ2),
          fun σ' H' n => ⟨_, by omega, n⟩, fun x H' yy => ?_⟩
        obtain ⟨sm3, r3⟩ := yl x H' yy
        have st3 := Same.step S2 sm3
        have S3 := S2.same sm3
        have q3 := QS.step q2 st3
        unfold forL at q3
        cases et : t d ρ2 with
        | none => rw [et] at q3; exact q3.elim
        | some ρ3 =>
          rw [et] at q3
          refine ⟨ρ2, α2, μ2, d, ρ3, S3, sl2.step st3, r3, et, fun σ3 _ sl3 => ⟨ρ3, α2, μ2, S3, sl3, ?_⟩⟩
          dsimp only at q3
          cases eb : F ρ3 μ2 with
          | nx ρ4 μ4 =>
            rw [eb] at q3
            exact fun σ' H5 α5 s S5 sl5 => ⟨rfl, hlt, ρ4, α5, μ4, (st2.trans st3).trans s, S5, sl5, QS.step (r := forL t F (l.drop (i + 1)) ρ4 μ4) q3 s⟩
          | ct ρ4 μ4 =>
            rw [eb] at q3
            exact fun σ' H5 α5 s S5 sl5 => ⟨rfl, hlt, ρ4, α5, μ4, (st2.trans st3).trans s, S5, sl5, QS.step (r := forL t F (l.drop (i + 1)) ρ4 μ4) q3 s⟩
          | bk ρ4 μ4 => rw [eb] at q3; exact q3
          | rt w μ4 => rw [eb] at q3; exact q3
          | er x μ4 => rw [eb] at q3; exact q3
          | no => rw [eb] at q3; exact q3
      · have e0 : l.drop i = [] := List.drop_eq_nil_of_le (by omega)
        rw [e0] at q2
        exact .inl ⟨ys (by omega), QS.nx S2 sl2 q2⟩
/-! ### while -/
theorem ds_while {n : Nat} (hp : PassesOwn (model X.prog X.w) X.A X.env X.xe) (hc : DT X T E c f) (hb : DSs X T E body F) : DS X T E (.While c body [] pos) (sWhile n f F) :=
  ps_imp (ps_while hp hc hb) fun D σ H ⟨ρ, α, μ, S, sl, q⟩ => by
    refine ⟨fun m σ2 H2 => ∃ ρ2 α2 μ2, Stor (CvX X T) H2 α2 μ2 ∧ Sl (CvX X T) H2 α2 μ2 σ2 ρ2 ∧ QS (CvX X T) E D H2 α2 μ2 (whileN f F m ρ2 μ2), ⟨n, ρ, α, μ, S, sl, q⟩, ?_⟩
    rintro m σ2 H2 ⟨ρ2, α2, μ2, S2, sl2, q2⟩
    cases m with
    | zero => exact q2.elim
    | succ m =>
      refine tD_testS S2 sl2 q2 fun b H3 α3 μ3 st3 S3 sl3 q3 => ⟨b, rfl, ?_⟩
      cases b with
      | false => rw [if_neg Bool.false_ne_true] at q3 ⊢; exact QS.nx S3 sl3 q3
      | true =>
        rw [if_pos rfl] at q3 ⊢
        refine ⟨fun σ' H' => ∃ ρ2 α2 μ2, Stor (CvX X T) H' α2 μ2 ∧ Sl (CvX X T) H' α2 μ2 σ' ρ2 ∧ QS (CvX X T) E D H' α2 μ2 (whileN f F m ρ2 μ2), fun σ' H' z => ⟨m, Nat.lt_succ_self m, z⟩, ρ2, α3, μ3, S3, sl3, ?_⟩
        cases eb : F ρ2 μ3 with
        | nx ρ4 μ4 => rw [eb] at q3; exact fun σ' H5 α5 s S5 sl5 => ⟨ρ4, α5, μ4, S5, sl5, QS.step (r := whileN f F m ρ4 μ4) q3 s⟩
        | ct ρ4 μ4 => rw [eb] at q3; exact fun σ' H5 α5 s S5 sl5 => ⟨ρ4, α5, μ4, S5, sl5, QS.step (r := whileN f F m ρ4 μ4) q3 s⟩
        | bk ρ4 μ4 => rw [eb] at q3; exact q3
        | rt w μ4 => rw [eb] at q3; exact q3
        | er x μ4 => rw [eb] at q3; exact q3
        | no => rw [eb] at q3; exact q3
/-! ### comprehensions -/
theorem CK.blk (ck : CK X E j) (s : Shared) (H : Hp) (scope : Scope) (cenv : PySem.Env) (fp : List Addr) : CK (X.blk s H scope cenv fp) E0 j where
  calm := ck.calm
  nd := ck.nd
  room := ck.room
  takes := fun _ _ x => by
    obtain ⟨_, _, _, _, _, _, _, _, _, _, _, _, _, _, _, _, z⟩ := x
    exact z.elim
structure DC (X : Cx) (T : List (Addr × Str)) (ifs : List Expr) (f : EF) : Prop where
  pts : PTs X ifs (fun σ H Q => tD (CvX X T) E0 f σ H fun v H1 => ∃ b, v = .bl b ∧ Q b H1)
theorem pts_imp {ifs : List Expr} {t t' : TT} (h : PTs X ifs t) (i : ∀ σ H Q, t' σ H Q → t σ H Q) : PTs X ifs t' := ⟨fun pins s σ H Q I q => h.run pins s σ H Q I (i _ _ _ q)⟩
theorem dc_nil : DC X T [] eYes := ⟨pts_imp pts_nil fun σ H Q ⟨ρ, α, μ, S, sl, q⟩ => by
  obtain ⟨b, e, q⟩ := PQ.bl S q
  cases e
  exact q⟩
theorem dc_one (h : DT X T E0 c f) : DC X T [c] f := ⟨pts_one h⟩
end
section
variable {C : Cv} {H : Hp} {α : Al} {μ : Sto}
/-- a new list that nobody knows of yet -/
def Al.hide (α : Al) (p : Addr) : Al := ⟨α.own, p :: α.hid⟩
theorem own_hide {p a : Addr} : Own (α.hide p) μ a ↔ Own α μ a ∨ a = p := by
  constructor
  · rintro (h | h)
    · exact .inl (.inl h)
    · rcases List.mem_cons.mp h with h | h
      · exact .inr h
      · exact .inl (.inr h)
  · rintro ((h | h) | rfl)
    · exact .inl h
    · exact .inr (List.mem_cons_of_mem _ h)
    · exact .inr List.mem_cons_self
theorem ext_hide (S : Stor C H α μ) {p : Addr} {o : HO} (np : H p = none) : Ext H (Own α μ) (upd H p o) (Own (α.hide p) μ) := by
  refine ⟨fun b u h n _ => ⟨same_upd np b u h, fun z => ?_⟩, fun b xs h => same_upd np b _ h, fun b o u h => same_upd np b _ h⟩
  rcases own_hide.mp z with z | z
  · exact n z
  · rw [z, np] at h; cases h
theorem CellOk.ext {H' : Hp} {α' : Al} {μ' : Sto} {a : Addr} {c : Cell} (h : CellOk C H α μ a c) (e : Ext H (Own α μ) H' (Own α' μ')) (ha : H' a = H a) : CellOk C H' α' μ' a c := by
  cases c with
  | lst l => obtain ⟨ys, e1, e2⟩ := h; exact ⟨ys, ha.trans e1, e2.ext e⟩
  | ins c fs => obtain ⟨A, dx, gs, e1, e2, e3, e4⟩ := h; exact ⟨A, dx, gs, e1, ha.trans e2, e3, e4.ext e⟩
theorem stor_hide (S : Stor C H α μ) {p : Addr} {xs : List V} (np : H p = none) : Stor C (upd H p (.lst xs)) (α.hide p) μ := by
  have fresh : ∀ a ∈ α.own ++ α.hid, a ≠ p := fun a ha e => by
    obtain ⟨o, q, _⟩ := S.there a ha
    rw [e, np] at q; cases q
  refine ⟨S.len, ?_, fun a h => ?_, fun k c h => ?_, S.tabs.ext (same_upd np)⟩
  · show (α.own ++ p :: α.hid).Nodup
    rw [List.Perm.nodup_iff List.perm_middle]
    exact List.nodup_cons.mpr ⟨fun z => fresh p z rfl, S.nd⟩
  · have h : a ∈ α.own ++ p :: α.hid := h
    by_cases e : a = p
    · subst e
      exact ⟨_, upd_same, fun _ z => by cases z⟩
    · have hm : a ∈ α.own ++ α.hid := by
        rcases List.mem_append.mp h with h | h
        · exact List.mem_append_left _ h
        · rcases List.mem_cons.mp h with h | h
          · exact absurd h e
          · exact List.mem_append_right _ h
      obtain ⟨o, q, n⟩ := S.there a hm
      exact ⟨o, same_upd np _ _ q, n⟩
  · obtain ⟨a, h1, h2⟩ := S.cell k c h
    refine ⟨a, h1, h2.ext (ext_hide S np) ?_⟩
    rw [upd_ne (fresh a (List.mem_append_left _ (List.mem_of_getElem? h1)))]
/-- the hidden list is written -/
theorem stor_write {p : Addr} {xs ys : List V} (S : Stor C H α μ) (hm : p ∈ α.hid) (hp : H p = some (.lst xs)) : Ext H (Own α μ) (upd H p (.lst ys)) (Own α μ) ∧ Stor C (upd H p (.lst ys)) α μ := by
  have op : Own α μ p := .inr hm
  have e : Ext H (Own α μ) (upd H p (.lst ys)) (Own α μ) := by
    refine ⟨fun b o h n _ => ⟨?_, n⟩, fun b zs h => ?_, fun b o u h => ?_⟩
    · rw [upd_ne (fun e => n (by rw [e]; exact op))]; exact h
    · rw [upd_ne (fun e => by rw [e, hp] at h; cases h)]; exact h
    · rw [upd_ne (fun e => by rw [e, hp] at h; cases h)]; exact h
  refine ⟨e, S.len, S.nd, fun a h => ?_, fun k c h => ?_, ?_⟩
  · by_cases z : a = p
    · rw [z]; exact ⟨_, upd_same, fun _ z => by cases z⟩
    · rw [upd_ne z]; exact S.there a h
  · obtain ⟨a, h1, h2⟩ := S.cell k c h
    refine ⟨a, h1, h2.ext e ?_⟩
    rw [upd_ne (fun z => S.nohid h1 (by rw [z]; exact hm))]
  · intro q hq
    obtain ⟨ps, h1, h2, h3⟩ := S.tabs q hq
    refine ⟨ps, by rw [upd_ne (fun e => by rw [e, hp] at h1; cases h1)]; exact h1, h2, fun pos cv hc => ?_⟩
    obtain ⟨c, e1, e2⟩ := h3 pos cv hc
    refine ⟨c, e1, ?_⟩
    rw [upd_ne (fun e => by rw [e, hp] at e2; cases e2)]
    exact e2
end
section
variable {X : Cx} {T : List (Addr × Str)} {E : XK} {j : Nat} {pos : Pos} {tg a b c : Expr} {f g h : EF}
theorem wipe_wipe (σ : L2.St) (vs : List Nat) : L2.wipe (L2.wipe σ vs) vs = L2.wipe σ vs := by
  refine List.ext_getElem? fun k => ?_
  rw [wipe_at, wipe_at]
  by_cases hk : k ∈ vs
  · rw [if_pos hk, if_pos hk, Option.map_map]
    rfl
  · rw [if_neg hk, if_neg hk]
theorem ext_unhide {P : Addr} {H' : Hp} {μ' : Sto} {α' : Al} : Ext H' (Own (α'.hide P) μ') H' (Own α' μ') :=
  ⟨fun b o h n _ => ⟨h, fun z => n (own_hide.mpr (.inl z))⟩, fun _ _ h => h, fun _ _ _ h => h⟩
theorem nodup_hide {C : Cv} {P : Addr} {H' : Hp} {μ' : Sto} {α' : Al} (S : Stor C H' (α'.hide P) μ') : P ∉ α'.own ++ α'.hid ∧ (α'.own ++ α'.hid).Nodup := by
  have h : (α'.own ++ P :: α'.hid).Nodup := S.nd
  rw [List.Perm.nodup_iff List.perm_middle] at h
  exact List.nodup_cons.mp h
theorem stor_unhide {C : Cv} {P : Addr} {H' : Hp} {μ' : Sto} {α' : Al} (S : Stor C H' (α'.hide P) μ') : Stor C H' α' μ' := by
  refine ⟨S.len, (nodup_hide S).2, fun a h => S.there a ?_, fun k c h => ?_, S.tabs⟩
  · show a ∈ α'.own ++ P :: α'.hid
    rcases List.mem_append.mp h with h | h
    · exact List.mem_append_left _ h
    · exact List.mem_append_right _ (List.mem_cons_of_mem _ h)
  · obtain ⟨a, h1, h2⟩ := S.cell k c h
    exact ⟨a, h1, h2.ext ext_unhide rfl⟩
theorem hide_of {P : Addr} {α α' : Al} (h : α'.hid = (α.hide P).hid) : α' = Al.hide ⟨α'.own, α.hid⟩ P := by
  obtain ⟨o, h'⟩ := α'
  have h : h' = P :: α.hid := h
  subst h
  rfl
/-- what holds at turn i of a comprehension: the new list at P holds acc -/
structure LcInv (C : Cv) (P : Addr) (H1 : Hp) (α1 : Al) (μ1 : Sto) (n : Nat) (accD : List PyData) (H2 : Hp) (α2 : Al) (μ2 : Sto) (acc : List V) : Prop where
  stor : Stor C H2 (α2.hide P) μ2
  ext : Ext H1 (Own α1 μ1) H2 (Own (α2.hide P) μ2)
  pre : ∀ (k : Nat) (a : Addr), α1.own[k]? = some a → α2.own[k]? = some a
  hid : α2.hid = α1.hid
  keep : ∀ b ∈ α1.hid, H2 b = H1 b
  list : H2 P = some (.lst acc)
  len : acc.length ≤ n
  rep : RpAll C.K H2 (Own (α2.hide P) μ2) acc accD
theorem LcInv.st {C : Cv} {P : Addr} {H1 H2 : Hp} {α1 α2 : Al} {μ1 μ2 : Sto} {n : Nat} {accD : List PyData} {acc : List V} (I : LcInv C P H1 α1 μ1 n accD H2 α2 μ2 acc) : Step H1 α1 μ1 H2 α2 μ2 :=
  ⟨I.ext.trans ext_unhide, I.pre, I.hid, I.keep⟩
/-- a step of the block -/
theorem LcInv.go {C : Cv} {P : Addr} {H1 H2 H3 : Hp} {α1 α2 α3 : Al} {μ1 μ2 μ3 : Sto} {n : Nat} {accD : List PyData} {acc : List V} (I : LcInv C P H1 α1 μ1 n accD H2 α2 μ2 acc) (s : Step H2 (α2.hide P) μ2 H3 α3 μ3) (S : Stor C H3 α3 μ3) :
    ∃ α4, α3 = α4.hide P ∧ LcInv C P H1 α1 μ1 n accD H3 α4 μ3 acc := by
  have e := hide_of (α := α2) s.hid
  refine ⟨_, e, by rw [← e]; exact S, by rw [← e]; exact I.ext.trans s.ext, fun k a h => s.pre k a (I.pre k a h), I.hid, fun b hb => ?_, ?_, I.len, by rw [← e]; exact I.rep.ext s.ext⟩
  · exact (s.keep b (List.mem_cons_of_mem _ (by rw [I.hid]; exact hb))).trans (I.keep b hb)
  · exact (s.keep P List.mem_cons_self).trans I.list
theorem LcInv.put {C : Cv} {P : Addr} {H1 H2 : Hp} {α1 α2 : Al} {μ1 μ2 : Sto} {n : Nat} {accD : List PyData} {acc : List V} {v : V} {d : PyData} (I : LcInv C P H1 α1 μ1 n accD H2 α2 μ2 acc) (np : H1 P = none) (S1 : Stor C H1 α1 μ1) (r : Rp C.K H2 (Own (α2.hide P) μ2) v d) :
    LcInv C P H1 α1 μ1 (n + 1) (accD ++ [d]) (upd H2 P (.lst (acc ++ [v]))) α2 μ2 (acc ++ [v]) := by
  obtain ⟨e, S⟩ := stor_write (ys := acc ++ [v]) I.stor List.mem_cons_self I.list
  refine ⟨S, I.ext.trans e, I.pre, I.hid, fun b hb => ?_, upd_same, by rw [List.length_append]; exact Nat.succ_le_succ I.len, (I.rep.append (.cons r .nil)).ext e⟩
  rw [upd_ne (fun z => ?_)]
  · exact I.keep b hb
  · obtain ⟨o, q, _⟩ := S1.there b (List.mem_append_right _ hb)
    rw [z, np] at q; cases q
/-- the reading of a comprehension -/
theorem lc_rd {it : IF} {t : TF} {vs ks : List Nat} {σ : L2.St} {H : Hp} {Q : VK} (hw : ∀ k ∈ ks, k ∈ vs) (q : tD (CvX X T) E (eLc vs t it f g) σ H Q) :
    tLc (tI (CvX X T) E it) (tG (CvX X T) t ks) (fun σ H Q => tD (CvX X T) E0 f σ H fun v H1 => ∃ b, v = .bl b ∧ Q b H1) (tD (CvX X T) E0 g) vs σ H Q := by
  obtain ⟨ρ, α, μ, S, sl, q⟩ := q
  refine ⟨ρ, α, μ, S, sl, ?_⟩
  unfold eLc at q
  cases e : it ρ μ with
  | no => rw [e] at q; exact q.elim
  | er x μ1 => rw [e] at q; exact q
  | ok l μ1 =>
    rw [e, Mi.R.bind_ok] at q
    intro J H1 α1 st1 S1 hl y P np
    have I0 : LcInv (CvX X T) P H1 α1 μ1 0 [] (upd H1 P (.lst [])) α1 μ1 [] :=
      ⟨stor_hide S1 np, ext_hide S1 np, fun _ _ h => h, rfl, (Same.step S1 (same_upd np)).keep, upd_same, Nat.le_refl _, .nil⟩
    refine ⟨fun i m H2 => m = l.length - i ∧ i ≤ l.length ∧ ∃ α2 μ2 acc accD, LcInv (CvX X T) P H1 α1 μ1 i accD H2 α2 μ2 acc ∧ PQ (CvX X T) E Q H1 α1 μ1 (lcL t f g (wipeE ρ vs) (l.drop i) accD μ2),
      ⟨l.length, rfl, Nat.zero_le _, α1, μ1, [], [], I0, PQ.step q st1⟩, ?_⟩
    rintro i m H2 ⟨rfl, hi, α2, μ2, acc, accD, I2, q2⟩
    obtain ⟨yg, ys⟩ := y i H2 (Own (α2.hide P) μ2) I2.ext fun _ h => I2.stor.own_ne h
    by_cases hlt : i < l.length
    · obtain ⟨d, hd⟩ : ∃ d, l[i]? = some d := ⟨l[i], List.getElem?_eq_getElem hlt⟩
      have ed : l.drop i = d :: l.drop (i + 1) := by
        rw [List.drop_eq_getElem_cons hlt]
        congr 1
        rw [List.getElem?_eq_getElem hlt] at hd
        exact Option.some.inj hd
      rw [ed] at q2
      obtain ⟨go, yl⟩ := yg d hd
      refine .inr ⟨go, fun H3 => i + 1 ≤ l.length ∧ ∃ α2 μ2 acc accD, LcInv (CvX X T) P H1 α1 μ1 (i + 1) accD H3 α2 μ2 acc ∧ PQ (CvX X T) E Q H1 α1 μ1 (lcL t f g (wipeE ρ vs) (l.drop (i + 1)) accD μ2), fun H3 n => ⟨_, by omega, rfl, n⟩, fun x H3 yy => ?_⟩
      obtain ⟨sm3, r3⟩ := yl x H3 yy
      obtain ⟨α3, ea, I3⟩ := I2.go (Same.step I2.stor sm3) (I2.stor.same sm3)
      have ea2 : α3 = α2 := by
        obtain ⟨o2, h2⟩ := α2
        obtain ⟨o3, h3⟩ := α3
        injection ea with e1 e2
        injection e2 with _ e3
        subst e1 e3
        rfl
      subst ea2
      have sl3 : Sl (CvX X T) H3 (α3.hide P) μ2 (L2.wipe σ vs) (wipeE ρ vs) := by
        have z := (sl.step st1).wipe vs
        refine ⟨z.len, fun i w h => ?_⟩
        obtain ⟨v, h1, h2⟩ := z.at_ i w h
        refine ⟨v, h1, ?_⟩
        cases w with
        | d d => exact Rp.ext I3.ext h2
        | m k => obtain ⟨a, h3, h4⟩ := h2; exact ⟨a, I3.pre _ _ h3, h4⟩
        | f x => exact h2
        | x k => exact h2
      unfold lcL at q2
      cases et : t d (wipeE ρ vs) with
      | none => rw [et] at q2; exact q2.elim
      | some ρ3 =>
        rw [et] at q2
        refine ⟨wipeE ρ vs, α3.hide P, μ2, d, ρ3, I3.stor, sl3, r3, et, fun σ3 o3 sl4 => ⟨(o3.wipe hw).trans (wipe_wipe σ vs), ρ3, α3.hide P, μ2, I3.stor, sl4, ?_⟩⟩
        dsimp only at q2
        cases ef : f ρ3 μ2 with
        | no => rw [ef] at q2; exact q2.elim
        | er x μ3 => rw [ef] at q2; exact q2.elim
        | ok w μ3 =>
          rw [ef] at q2
          intro v4 H4 α4 st4 S4 r4
          obtain ⟨α5, e5, I5⟩ := I3.go st4 S4
          subst e5
          split at q2
          · rename_i μ3' e3
            cases e3
            cases r4
            refine ⟨true, rfl, ?_⟩
            show if true = true then _ else _
            rw [if_pos rfl]
            refine ⟨ρ3, α5.hide P, μ3, S4, sl4.step st4, ?_⟩
            split at q2
            · rename_i z μ6 eg
              rw [eg]
              intro v6 H6 α6 st6 S6 r6
              obtain ⟨α7, e7, I7⟩ := I5.go st6 S6
              subst e7
              exact ⟨acc, I7.list, Nat.lt_of_le_of_lt I7.len (Nat.lt_of_lt_of_le hlt hl), hlt, α7, μ6, _, _, I7.put np S1 r6, q2⟩
            · exact q2.elim
          · rename_i μ3' e3
            cases e3
            cases r4
            refine ⟨false, rfl, ?_⟩
            show if false = true then _ else _
            rw [if_neg Bool.false_ne_true]
            exact ⟨hlt, α5, μ3, acc, accD, ⟨I5.stor, I5.ext, I5.pre, I5.hid, I5.keep, I5.list, Nat.le_succ_of_le I5.len, I5.rep⟩, q2⟩
          · exact q2.elim
    · have e0 : l.drop i = [] := List.drop_eq_nil_of_le (by omega)
      rw [e0] at q2
      refine .inl ⟨ys (by omega), q2 _ H2 α2 I2.st (stor_unhide I2.stor) (.lst (.inl I2.list) (fun z => ?_) (I2.rep.ext ext_unhide))⟩
      have hn := (nodup_hide I2.stor).1
      rcases z with ⟨k, c, h1, h2⟩ | z
      · exact hn (List.mem_append_left _ (List.mem_of_getElem? h1))
      · exact hn (List.mem_append_right _ z)
theorem de_lc {it : IF} {t : TF} {ks : List Nat} {elt iter : Expr} {ifs : List Expr} {scope : Scope} {own : List (Str × Nat)} (ck : CK X E j) (hi : DI X T E tg iter it) (ok : BlkOk X.N X.env.scope scope own)
    (hg : ∀ (s : Shared) (H : Hp) (D : Addr) (cl : List (Str × Addr)) (fp : List Addr), DG (X.blk s H scope (compEnvC scope cl D X.env) fp) T tg t ks)
    (ht : ∀ (s : Shared) (H : Hp) (D : Addr) (cl : List (Str × Addr)) (fp : List Addr), CK (X.blk s H scope (compEnvC scope cl D X.env) fp) E0 j → DC (X.blk s H scope (compEnvC scope cl D X.env) fp) T ifs f)
    (he : ∀ (s : Shared) (H : Hp) (D : Addr) (cl : List (Str × Addr)) (fp : List Addr), CK (X.blk s H scope (compEnvC scope cl D X.env) fp) E0 j → DE (X.blk s H scope (compEnvC scope cl D X.env) fp) T E0 elt g)
    (hw : ∀ k ∈ ks, k ∈ own.map (·.2) := by decide) (hs : ∀ x, foldedSetIterable iter X.env x = pure x := by intro _; rfl) :
    DE X T E (.ListComp elt [⟨tg, iter, ifs, 0⟩] scope pos) (eLc (own.map (·.2)) t it f g) :=
  pe_imp (pe_lc (g := tG (CvX X T) t ks) (tt := fun σ H Q => tD (CvX X T) E0 f σ H fun v H1 => ∃ b, v = .bl b ∧ Q b H1) (te := tD (CvX X T) E0 g) ck.calm ck.nd hi ok hg (fun s H D cl fp => (ht s H D cl fp (ck.blk s H scope _ fp)).pts) (fun s H D cl fp => he s H D cl fp (ck.blk s H scope _ fp)) hs) fun σ H Q q => lc_rd hw q
/-- y = [..] on one line -/
theorem ds_setLc (i : Nat) {y : Str} {py : Pos} {it : IF} {t : TF} {ks : List Nat} {elt iter : Expr} {ifs : List Expr} {scope : Scope} {own : List (Str × Nat)} {spos : Pos} (ck : CK X E j) (hi : DI X T E tg iter it) (ok : BlkOk X.N X.env.scope scope own)
    (hg : ∀ (s : Shared) (H : Hp) (D : Addr) (cl : List (Str × Addr)) (fp : List Addr), DG (X.blk s H scope (compEnvC scope cl D X.env) fp) T tg t ks)
    (ht : ∀ (s : Shared) (H : Hp) (D : Addr) (cl : List (Str × Addr)) (fp : List Addr), CK (X.blk s H scope (compEnvC scope cl D X.env) fp) E0 j → DC (X.blk s H scope (compEnvC scope cl D X.env) fp) T ifs f)
    (he : ∀ (s : Shared) (H : Hp) (D : Addr) (cl : List (Str × Addr)) (fp : List Addr), CK (X.blk s H scope (compEnvC scope cl D X.env) fp) E0 j → DE (X.blk s H scope (compEnvC scope cl D X.env) fp) T E0 elt g)
    (hy : X.N[i]? = some y := by rfl) (hyl : X.env.scope.names.lookup y = some .local := by rfl) (hsw : swapsWith (.ListComp elt [⟨tg, iter, ifs, 0⟩] scope pos) (some (.Name y py)) spos.line X.env = pure true := by exact sw_true rfl rfl rfl (by decide +kernel))
    (hw : ∀ k ∈ ks, k ∈ own.map (·.2) := by decide) (hs : ∀ x, foldedSetIterable iter X.env x = pure x := by intro _; rfl) :
    DS X T E (.Assign [.Name y py] (.ListComp elt [⟨tg, iter, ifs, 0⟩] scope pos) spos) (sAsg i (eLc (own.map (·.2)) t it f g)) :=
  ps_imp (ps_setLc (g := tG (CvX X T) t ks) (tt := fun σ H Q => tD (CvX X T) E0 f σ H fun v H1 => ∃ b, v = .bl b ∧ Q b H1) (te := tD (CvX X T) E0 g) ck.calm ck.nd hy hyl hsw hi ok hg (fun s H D cl fp => (ht s H D cl fp (ck.blk s H scope _ fp)).pts) (fun s H D cl fp => he s H D cl fp (ck.blk s H scope _ fp)) hs) fun D σ H ⟨ρ, α, μ, S, sl, q⟩ => by
    refine lc_rd (E := E) hw ⟨ρ, α, μ, S, sl, ?_⟩
    cases e : eLc (own.map (·.2)) t it f g ρ μ with
    | ok w μ1 =>
      unfold sAsg at q
      rw [e, Mi.R.bindS_ok] at q
      exact fun v H1 α1 st S1 r => q _ H1 α1 st S1 ((sl.step st).set r i)
    | er x μ1 => unfold sAsg at q; rw [e] at q; exact q
    | no => unfold sAsg at q; rw [e] at q; exact q
end
/-! ### raise; a def's body -/
section
variable {X : Cx} {T : List (Addr × Str)} {E : XK} {j : Nat} {pos : Pos}
/-- an own class over ValueError without an __init__ of its own -/
structure OwnEx (K : PySem.W.Frag) (mg : Str → Option Value) (x : Str) : Prop where
  ex : ∃ A, mg x = some (.ref A) ∧ PySem.W.keepIn K (.ref A) = true ∧ PySem.W.excIn K A [.type "ValueError", .type "Exception", .type "BaseException", .type "object"] "ValueError.__new__" = true ∧
    PySem.W.subIn K (.ref A) (.type "BaseException") = some true ∧ PySem.W.typeIn K (.ref A) = some (.type "type")
theorem ds_raise {x m : Str} {j' : Nat} {p p2 p3 : Pos} (ck : CK X E j) (hx : OwnEx X.K X.mg x) (hg : Gl X x := by rfl) (hdb : (x == ("__debug__" : Str)) = false := by decide) :
    DS X T E (.Raise (some (.Call (.Name x p) [.Constant (.str m) j' p2] [] p3)) none pos) (sRaise x) := by
  obtain ⟨A, gC, kC, xC, bC, tC⟩ := hx.ex
  exact ps_imp (L2N.ps_raise ck.calm ck.takes (L2N.pmk_own PySem.F.excBase_ValueError xC gC kC (raises_own bC tC) hg hdb)) fun D σ H ⟨ρ, α, μ, S, sl, q⟩ => q _ _ H α (.refl _ _ _) S ⟨gC, rfl⟩
end
section
variable {P : Program} {w : World} {K : PySem.W.Frag} {mg : Str → Option Value} {base : Heap} {T : List (Addr × Str)}
theorem Sl.start {C : Cv} {H : Hp} {α : Al} {μ : Sto} : ∀ {vs : List V} {ws : List W}, RpWs C H α μ vs ws → ∀ m, (∀ (i : Nat) (w : W), (ws.map some ++ List.replicate m (none : Option W))[i]? = some (some w) → ∃ v, (vs.map some ++ List.replicate m (none : Option V))[i]? = some (some v) ∧ RpW C H α μ v w)
  | _, _, .nil, m => fun i w h => by
    have h : (List.replicate m (none : Option W))[i]? = some (some w) := h
    have z := List.mem_of_getElem? h
    rw [List.mem_replicate] at z
    cases z.2
  | _, _, .cons r t, m => fun i w h => by
    cases i with
    | zero =>
      have h : some (some _) = some (some w) := h
      injection h with h
      injection h with h
      subst h
      exact ⟨_, rfl, r⟩
    | succ i => exact Sl.start t m i w (by simpa using h)
/-- what a callee leaves, without its own -/
theorem stor_cut {C : Cv} {H H' : Hp} {α α' : Al} {μ μ' : Sto} {n : Nat} (S : Stor C H α μ) (st : Step H α μ H' α' μ') (S' : Stor C H' α' μ') (hn : μ.length ≤ n) :
    Step H α μ H' ⟨α'.own.take n, α'.hid⟩ (μ'.take n) ∧ Stor C H' ⟨α'.own.take n, α'.hid⟩ (μ'.take n) ∧ Step H' α' μ' H' α' μ' ∧ Ext H' (Own α' μ') H' (Own ⟨α'.own.take n, α'.hid⟩ (μ'.take n)) := by
  have ow : ∀ {a}, Own ⟨α'.own.take n, α'.hid⟩ (μ'.take n) a → Own α' μ' a := fun {a} h => by
    rcases h with ⟨k, c, h1, h2⟩ | h
    · have h1 : (α'.own.take n)[k]? = some a := h1
      rw [List.getElem?_take] at h1 h2
      split at h1
      · rename_i hk
        rw [if_pos hk] at h2
        exact .inl ⟨k, c, h1, h2⟩
      · cases h1
    · exact .inr h
  have ex : Ext H' (Own α' μ') H' (Own ⟨α'.own.take n, α'.hid⟩ (μ'.take n)) := ⟨fun b o h m _ => ⟨h, fun z => m (ow z)⟩, fun _ _ h => h, fun _ _ _ h => h⟩
  refine ⟨⟨st.ext.trans ex, fun k a h => ?_, st.hid, st.keep⟩, ⟨?_, ?_, fun a h => S'.there a ?_, fun k c h => ?_, S'.tabs⟩, .refl _ _ _, ex⟩
  · have hk : k < α.own.length := (List.getElem?_eq_some_iff.mp h).1
    have hl := S.len
    show (α'.own.take n)[k]? = some a
    rw [List.getElem?_take, if_pos (by omega)]
    exact st.pre k a h
  · show (α'.own.take n).length = (μ'.take n).length
    rw [List.length_take, List.length_take, S'.len]
  · show (α'.own.take n ++ α'.hid).Nodup
    have h := S'.nd
    rw [List.nodup_append] at h ⊢
    exact ⟨h.1.sublist (List.take_sublist _ _), h.2.1, fun a ha b hb => h.2.2 a (List.mem_of_mem_take ha) b hb⟩
  · have h : a ∈ α'.own.take n ++ α'.hid := h
    rcases List.mem_append.mp h with h | h
    · exact List.mem_append_left _ (List.mem_of_mem_take h)
    · exact List.mem_append_right _ h
  · rw [List.getElem?_take] at h
    split at h
    · rename_i hk
      obtain ⟨a, h1, h2⟩ := S'.cell k c h
      refine ⟨a, ?_, ?_⟩
      · show (α'.own.take n)[k]? = some a
        rw [List.getElem?_take, if_pos hk]
        exact h1
      · exact h2.ext ex rfl
    · cases h
theorem fin_ok {C : Cv} {E : XK} {Q : VK} {D : Ends} {H : Hp} {α : Al} {μ : Sto} {r : RS} (S : Stor C H α μ) (hD : D.nx = (fun _ H' => Q .non H') ∧ D.rt = Q) (q : PQ C E Q H α μ (fin μ.length r)) : QS C E D H α μ r := by
  obtain ⟨h1, h2⟩ := hD
  cases r with
  | nx ρ μ' =>
    intro σ' H' α' st S' _
    rw [h1]
    obtain ⟨s2, S2, _, ex⟩ := stor_cut S st S' (Nat.le_refl _)
    exact q .non H' _ s2 S2 .non
  | bk ρ μ' => exact q.elim
  | ct ρ μ' => exact q.elim
  | no => exact q.elim
  | er x μ' =>
    intro cls d H' α' st S' rx
    obtain ⟨s2, S2, _, ex⟩ := stor_cut S st S' (Nat.le_refl _)
    exact q cls d H' _ s2 S2 rx
  | rt w μ' =>
    intro v H' α' st S' rv
    rw [h2]
    cases w with
    | d d =>
      obtain ⟨s2, S2, _, ex⟩ := stor_cut S st S' (Nat.le_refl _)
      exact q v H' _ s2 S2 (Rp.ext ex rv)
    | f x =>
      obtain ⟨s2, S2, _, ex⟩ := stor_cut S st S' (Nat.le_refl _)
      exact q v H' _ s2 S2 rv
    | x k => exact q.elim
    | m k =>
      obtain ⟨a, ha, rfl⟩ := rv
      have q : PQ C E Q H α μ (if k < μ.length then .ok (.m k) (μ'.take μ.length) else if k = μ.length then .ok (.m k) (μ'.take (μ.length + 1)) else .no) := q
      split at q
      · rename_i hk
        obtain ⟨s2, S2, _, ex⟩ := stor_cut S st S' (Nat.le_refl _)
        refine q _ H' _ s2 S2 ⟨a, ?_, rfl⟩
        show (α'.own.take μ.length)[k]? = some a
        rw [List.getElem?_take, if_pos hk]
        exact ha
      · split at q
        · rename_i hk
          obtain ⟨s2, S2, _, ex⟩ := stor_cut S st S' (Nat.le_succ _)
          refine q _ H' _ s2 S2 ⟨a, ?_, rfl⟩
          show (α'.own.take (μ.length + 1))[k]? = some a
          rw [List.getElem?_take, if_pos (by omega)]
          exact ha
        · exact q.elim
/-- THE RULE: a def whose body does what F says keeps the promise that F makes -/
theorem fn_ok {x : Str} {params : Arguments} {body : List Stmt} {scope : Scope} {dvs : List V} {kws : List (Str × V)} {f : Addr} {fd : FuncData} {N ps : List Str} {k : Nat} {F : SF} (Fu : FunD K x x params body scope dvs kws f fd) (S : FnScope N ps scope)
    (hbody : ∀ (cdv : Value) (A : Around) (outer : List PySem.Env) (s : Shared) (H : Hp) (E : XK), CK (cxOf (L2N.CX P w) P w K mg base N x scope f cdv A outer s H E) E k →
      PassesOwn (model P w) (cxOf (L2N.CX P w) P w K mg base N x scope f cdv A outer s H E).A (cxOf (L2N.CX P w) P w K mg base N x scope f cdv A outer s H E).env (cxOf (L2N.CX P w) P w K mg base N x scope f cdv A outer s H E).xe →
      DSs (cxOf (L2N.CX P w) P w K mg base N x scope f cdv A outer s H E) T E body F) : FnOk P w K mg base (L2N.CX P w) (k + 1) f fd ps (spD ⟨K, mg, T⟩ (fnOf ps.length N.length F)) := by
  refine Fu.ok S (fun vs H Q E h => ?_) fun cdv A outer s H vs Q E hr h => ?_
  · obtain ⟨ws, α, μ, S, rs, q⟩ := h
    unfold fnOf at q
    split at q
    · rename_i hl
      rw [rs.length]
      exact hl
    · exact q.elim
  · obtain ⟨ws, α, μ, St, rs, q⟩ := h
    have tk : L2N.Takes (cxOf (L2N.CX P w) P w K mg base N x scope f cdv A outer s H E) (fun cls d _ H => E cls d H) := L2N.takes_of rfl rfl rfl rfl
    refine ⟨_, hbody cdv A outer s H E ⟨rfl, S.nd, hr, tk⟩ (passes_of rfl), ?_⟩
    unfold fnOf at q
    split at q
    · rename_i hl
      refine ⟨startE N.length ws, α, μ, St, ⟨?_, ?_⟩, fin_ok (D := { nx := fun _ H' => Q .non H', rt := Q }) St ⟨rfl, rfl⟩ q⟩
      · have e := rs.length
        simp only [startE, L2.start, List.length_append, List.length_map, List.length_replicate, e]
      · have e := rs.length
        have z := Sl.start rs (N.length - ws.length)
        unfold startE L2.start
        rw [e]
        exact z
    · exact q.elim
theorem fn_okD {x : Str} {st : Stmt} {N ps : List Str} {k : Nat} {F : SF} (d : DefFact K mg x st ps) (S : FnScope N ps (defScope st))
    (hbody : ∀ (f : Addr) (cdv : Value) (A : Around) (outer : List PySem.Env) (s : Shared) (H : Hp) (E : XK), CK (cxOf (L2N.CX P w) P w K mg base N x (defScope st) f cdv A outer s H E) E k →
      PassesOwn (model P w) (cxOf (L2N.CX P w) P w K mg base N x (defScope st) f cdv A outer s H E).A (cxOf (L2N.CX P w) P w K mg base N x (defScope st) f cdv A outer s H E).env (cxOf (L2N.CX P w) P w K mg base N x (defScope st) f cdv A outer s H E).xe →
      DSs (cxOf (L2N.CX P w) P w K mg base N x (defScope st) f cdv A outer s H E) T E (defBody st) F) : HasFn P w K mg base T (k + 1) x (fnOf ps.length N.length F) := by
  obtain ⟨f, fd, dvs, kws, Fu, hm, hb⟩ := d.ex
  exact ⟨f, fd, ps, [], [], [], _, hm, Fu.kp, hb, .nil, fun _ _ => .nil, fun ws μ => by rw [List.map_nil, List.append_nil], fn_ok Fu S (hbody f)⟩
/-- .. called with less -/
theorem fn_ok1 {x : Str} {st : Stmt} {N ps : List Str} {k : Nat} {F : SF} {dd : List PyData} (d : DefFact1 K mg x st ps dd) (S : FnScope N ps (defScope st))
    (hbody : ∀ (f : Addr) (cdv : Value) (A : Around) (outer : List PySem.Env) (s : Shared) (H : Hp) (E : XK), CK (cxOf (L2N.CX P w) P w K mg base N x (defScope st) f cdv A outer s H E) E k →
      PassesOwn (model P w) (cxOf (L2N.CX P w) P w K mg base N x (defScope st) f cdv A outer s H E).A (cxOf (L2N.CX P w) P w K mg base N x (defScope st) f cdv A outer s H E).env (cxOf (L2N.CX P w) P w K mg base N x (defScope st) f cdv A outer s H E).xe →
      DSs (cxOf (L2N.CX P w) P w K mg base N x (defScope st) f cdv A outer s H E) T E (defBody st) F) : HasFn P w K mg base T (k + 1) x (fun ws μ => fnOf ps.length N.length F (ws ++ dd.map W.d) μ) := by
  obtain ⟨f, fd, dvs, kws, ds, Fu, hm, hb, hv, hd⟩ := d.ex
  exact ⟨f, fd, ps, ds, dvs, dd, _, hm, Fu.kp, hb, hv, hd, fun ws μ => rfl, fn_ok Fu S (hbody f)⟩
/-- a promise that asks too much -/
theorem fn_no {x : Str} {st : Stmt} {ps : List Str} {k : Nat} (d : DefFact K mg x st ps) : HasFn P w K mg base T k x (fun _ _ => .no) := by
  obtain ⟨f, fd, dvs, kws, Fu, hm, hb⟩ := d.ex
  exact ⟨f, fd, ps, [], [], [], fun _ _ => .no, hm, Fu.kp, hb, .nil, fun _ _ => .nil, fun ws μ => rfl, ⟨fun vs H Q E h => by
    obtain ⟨ws, α, μ, S, rs, q⟩ := h
    exact q.elim, fun A outer s H args us vs Q E _ _ _ _ h => by
    obtain ⟨ws, α, μ, S, rs, q⟩ := h
    exact q.elim⟩⟩
end
end L3

set_option Elab.async false
set_option linter.all false
set_option maxRecDepth 100000
set_option maxHeartbeats 2000000
/-! While an exception is handled: iterators that end, unpacking, comprehensions over zip. -/
namespace HotY
open PySem PySem.Spec PyProof.Rows L2 HotX L2H
section
variable {prog : Program} {w : World} {A : Around} {E : Value → Shared → Prop} {s : Shared}
theorem HotAt.keep {x1 : Addr} {h h' : Heap} (hot : HotAt A x1 h) (k : ∀ o, h.get? x1 = some o → h'.get? x1 = some o) : HotAt A x1 h' := by
  obtain ⟨hh, o, vs, h1, d1, c1⟩ := hot
  exact ⟨hh, o, vs, k o h1, d1, c1⟩
theorem HotAt.ne {x1 b : Addr} {h : Heap} {o : Obj} {vs : Array Value} (hot : HotAt A x1 h) (hb : h.get? b = some o) (hd : o.data = .fields vs) (hn : vs[2]? ≠ some .none) : x1 ≠ b := fun e => by
  obtain ⟨hh, o1, vs1, h1, d1, c1⟩ := hot
  rw [e, hb] at h1
  cases h1
  rw [hd] at d1
  cases d1
  exact hn c1
theorem HotAt.neL {x1 it l : Addr} {i : Nat} {h : Heap} (hot : HotAt A x1 h) (hit : h.IsListIter it l i) : x1 ≠ it := by
  obtain ⟨o, ho, hc, hd⟩ := hit
  exact HotAt.ne hot ho hd (by simp)
theorem HotAt.neT {x1 it l : Addr} {i : Nat} {h : Heap} (hot : HotAt A x1 h) (hit : IsTupIter h it l i) : x1 ≠ it := by
  obtain ⟨o, ho, hc, hd⟩ := hit
  exact HotAt.ne hot ho hd (by simp)
/-- StopIteration raised while an exception is handled -/
theorem stop_hot {α : Type} {x1 : Addr} {Q : α → Shared → Prop} (hot : HotAt A x1 s.heap)
    (hE : ∀ h' e, (∀ b o, s.heap.get? b = some o → h'.get? b = some o) → (∃ o, h'.get? e = some o ∧ o.cls = .type "StopIteration") → E (.ref e) { s with heap := h' }) :
    wpAny (model prog w) A ((newExc (.type "StopIteration") [] >>= fun e => raiseNew e) : Sem α) Q E s := by
  refine wpAny_bind ?_
  simp only [newExc, newTuple]
  refine wpAny_bind (wpAny_newObj_type ?_ (by size_fits))
  refine wpAny_bind (m := firstArgMember _ _) (wpAny_of_eq (a := Value.none) (by first | rfl | (simp only [firstArgMember]; rfl)) ?_)
  refine wpAny_newObj_type ?_ (by size_fits)
  obtain ⟨hh, o1, vs1, h1, d1, c1⟩ := hot
  refine raiseNew_hot ⟨hh, o1, vs1, Heap.get?_push_of_some _ (Heap.get?_push_of_some _ h1), d1, c1⟩ (Nat.ne_of_lt (Heap.lt_size (Heap.get?_push_of_some _ h1))) (Heap.get?_push_size _ rfl) rfl (by first | (simp; done) | (simp; omega) | (simp only [Array.size_append]; simp; omega)) ?_
  refine hE _ _ (fun b o e => ?_) ⟨_, Heap.get?_update_self _ (Heap.get?_push_size _ rfl) rfl, rfl⟩
  rw [Heap.get?_update_other _ _ (Nat.ne_of_gt (Heap.lt_size (Heap.get?_push_of_some _ e)))]
  exact Heap.get?_push_of_some _ (Heap.get?_push_of_some _ e)
theorem nextOf_list_end_hot {it l x1 : Addr} {i : Nat} {items} {Q : Value → Shared → Prop} (hot : HotAt A x1 s.heap)
    (hit : s.heap.IsListIter it l i) (hl : s.heap.IsList l items) (hx : items[i]? = none)
    (hE : ∀ h' e, Heap.ExtBut it s.heap h' → (∃ o, h'.get? e = some o ∧ o.cls = .type "StopIteration") → E (.ref e) { s with heap := h' }) :
    wpAny (model prog w) A (Builtin.SmallTypes.nextOf (.ref it)) Q E s := by
  have hne := HotAt.neL hot hit
  obtain ⟨o, ho, hc, hd⟩ := id hit
  obtain ⟨ol, hol, _, nl, hdl⟩ := hl
  unfold Builtin.SmallTypes.nextOf
  refine wpAny_bind (wpAny_callSpecial?_slot (name := Str.ofString "__next__") hit.typeIs slot_listiter_next
    (wpAny_call_entry slot_listiter_next hit.typeIs entry_listiter_next ?_ (args_listiter_next _)))
  show wpAny _ _ (field (.ref it) 0 >>= _) _ _ s
  refine wpAny_bind (wpAny_field ho hd (x := .ref l) rfl ?_)
  show wpAny _ _ (if (Value.ref l == Value.none) = true then _ else _) _ _ s
  rw [if_neg (show ¬ ((Value.ref l == Value.none) = true) from Bool.false_ne_true)]
  show wpAny _ _ (field (.ref it) 1 >>= _) _ _ s
  refine wpAny_bind (wpAny_field ho hd (x := .int i 0) rfl ?_)
  show wpAny _ _ (seqItems? (.ref l) >>= _) _ _ s
  refine wpAny_bind (wpAny_seqItems hol hdl ?_)
  simp only [Int.toNat_natCast, hx]
  refine wpAny_bind (wpAny_rule (wpAny_bind (wpAny_setField ho hd (by simp) ?_)))
  refine stop_hot (x1 := x1) (HotAt.keep (h' := s.heap.update it (Obj.mapFields (·.setIfInBounds 0 .none))) hot fun o1 e1 => ?_) fun h' e k st => hE h' e (fun b o1 hb e1 => k b o1 ?_) st
  · rw [Heap.get?_update_other _ _ (Ne.symm hne)]; exact e1
  · show (s.heap.update it _).get? b = _
    rw [Heap.get?_update_other _ _ (Ne.symm hb)]; exact e1
theorem next_tuple_end_hot {it t x1 : Addr} {i : Nat} {items} {Q : Option Value → Shared → Prop} (hot : HotAt A x1 s.heap)
    (hit : IsTupIter s.heap it t i) (ht : IsTup s.heap t items) (hx : items[i]? = none)
    (hQ : ∀ h', Heap.ExtBut it s.heap h' → Q none { s with heap := h' }) : wpAny (model prog w) A (pyNext (.ref it)) Q E s := by
  have hne := HotAt.neT hot hit
  obtain ⟨o, ho, hc, hd⟩ := id hit
  obtain ⟨ol, hol, _, nl, hdl⟩ := ht
  unfold pyNext
  refine wpAny_bind (wpAny_attempt (wpAny_callSpecial?_slot (name := Str.ofString "__next__") hit.typeIs slot_tupleiter_next
    (wpAny_call_entry slot_tupleiter_next hit.typeIs entry_tupleiter_next ?_ (args_tupleiter_next _))))
  show wpAny _ _ (field (.ref it) 0 >>= _) _ _ s
  refine wpAny_bind (wpAny_field ho hd (x := .ref t) rfl ?_)
  show wpAny _ _ (if (Value.ref t == Value.none) = true then _ else _) _ _ s
  rw [if_neg (show ¬ ((Value.ref t == Value.none) = true) from Bool.false_ne_true)]
  show wpAny _ _ (field (.ref it) 1 >>= _) _ _ s
  refine wpAny_bind (wpAny_field ho hd (x := .int i 0) rfl ?_)
  show wpAny _ _ (seqItems? (.ref t) >>= _) _ _ s
  refine wpAny_bind (wpAny_seqItems hol hdl ?_)
  simp only [Int.toNat_natCast, hx]
  refine wpAny_bind (wpAny_rule (wpAny_bind (wpAny_setField ho hd (by simp) ?_)))
  refine stop_hot (x1 := x1) (HotAt.keep (h' := s.heap.update it (Obj.mapFields (·.setIfInBounds 0 .none))) hot fun o1 e1 => ?_) fun h' e k st => ?_
  · rw [Heap.get?_update_other _ _ (Ne.symm hne)]; exact e1
  · obtain ⟨oe, he, hce⟩ := st
    refine wpAny_bind (wpAny_isInstance (T := "StopIteration") (b := true) ⟨_, he, hce⟩ isSubtype_stop ?_)
    refine wpAny_pure (hQ _ fun b o1 hb e1 => k b o1 ?_)
    show (s.heap.update it _).get? b = _
    rw [Heap.get?_update_other _ _ (Ne.symm hb)]; exact e1
theorem unpackItems_tuple_hot {t x1 : Addr} {items : Array Value} {Q : List Value → Shared → Prop} (hot : HotAt A x1 s.heap) (ht : IsTup s.heap t items)
    (hQ : ∀ h', Heap.ExtBut s.heap.objs.size s.heap h' → Q items.toList { s with heap := h' }) : wpAny (model prog w) A (unpackItems (.ref t) items.size none) Q E s := by
  have hlt : t ≠ s.heap.objs.size := by obtain ⟨o, ho, _⟩ := ht; exact Nat.ne_of_lt (Heap.lt_size ho)
  unfold unpackItems
  refine wpAny_bind ?_
  · unfold notIterableAtAll
    refine wpAny_bind (wpAny_specialOf ht.typeIs slot_tuple_iter.lookup ?_)
    refine wpAny_pure ?_
    simp only [Bool.false_eq_true, if_false]
    refine wpAny_bind (wpAny_holding (iter_tuple ht ?_))
    refine wpAny_bind (wpAny_holding (draw_tuple hlt items.size 0 _ _ ⟨_, Heap.get?_push_size _ rfl, rfl, rfl⟩ (ht.push _) (by omega) fun h₁ hit₁ hs₁ => ?_))
    have hall : List.take items.size (List.drop 0 items.toList) = items.toList := by
      rw [List.drop_zero]; exact List.take_of_length_le (by simp)
    rw [hall]
    rw [if_neg (by simp)]
    have ht₁ : IsTup h₁ t items := (ht.push _).extBut hs₁.extBut hlt
    have hot1 : HotAt A x1 h₁ := HotAt.keep hot fun o e => hs₁.extBut _ _ (Nat.ne_of_lt (Heap.lt_size e)) (Heap.get?_push_of_some _ e)
    refine wpAny_bind (wpAny_holding (next_tuple_end_hot (s := { s with heap := h₁ }) hot1 hit₁ ht₁ (by simp) fun h₂ he₂ => ?_))
    simp only [Option.isSome_none, Bool.false_eq_true, if_false]
    refine wpAny_pure (hQ h₂ fun b o hb e => he₂ b o hb (hs₁.extBut b o hb (Heap.get?_push_of_some _ e)))
theorem assign_Tuple_tuple_hot {env : Env} {elts : List Expr} {k} {pos : Pos} {t x1 : Addr} {items : Array Value} {Q : Unit → Shared → Prop} (hot : HotAt A x1 s.heap) (ht : IsTup s.heap t items)
    (hn : (assignEach elts env).length = items.size) (hstar : (assignEach elts env).findIdx? (·.1) = none)
    (h : ∀ h', Heap.ExtBut s.heap.objs.size s.heap h' → wpAny (model prog w) A (assignInOrder ((assignEach elts env).map (·.2)) items.toList) Q E { s with heap := h' }) :
    wpAny (model prog w) A (assign (.Tuple elts k pos) env (.ref t)) Q E s := by
  rw [assign_Tuple]
  refine wpAny_bind (wpAny_standAt ?_)
  unfold unpack
  rw [hn, hstar]
  exact wpAny_bind (wpAny_holding (unpackItems_tuple_hot hot ht h))
theorem zip_next_end_hot {x1 z TI TO i1 i2 l1 l2 : Addr} {k1 k2 : Nat} {xs ys : Array Value} {a b : Value} {Q : Fin → Shared → Prop} (hot : HotAt A x1 s.heap) (D : ZipApart z TI TO i1 i2 l1 l2)
    (hz : IsZip s.heap z TI TO .none) (hTI : IsPair s.heap TI (.ref i1) (.ref i2)) (hTO : IsPair s.heap TO a b)
    (h1 : s.heap.IsListIter i1 l1 k1) (h2 : s.heap.IsListIter i2 l2 k2) (hl1 : s.heap.IsList l1 xs) (hl2 : s.heap.IsList l2 ys) (hend : xs[k1]? = none ∨ ys[k2]? = none)
    (hE : ∀ h' e, (∀ c o, c ≠ z → c ≠ TO → c ≠ i1 → c ≠ i2 → s.heap.get? c = some o → h'.get? c = some o) → (∃ o, h'.get? e = some o ∧ o.cls = .type "StopIteration") → E (.ref e) { s with heap := h' }) :
    wpAny (model prog w) A (Builtin.«zip.__next__» ⟨[.ref z], []⟩) Q E s := by
  have nz : x1 ≠ z := HotAt.ne hot hz rfl (by simp)
  have n1 := HotAt.neL hot h1
  have n2 := HotAt.neL hot h2
  have nTO : x1 ≠ TO := fun e => by
    obtain ⟨hh, o1, vs1, e1, d1, c1⟩ := hot
    rw [e, hTO] at e1
    cases e1
    cases d1
  show wpAny _ _ (field (.ref z) 2 >>= _) _ _ _
  refine wpAny_bind (wpAny_field hz rfl (x := .bool false) rfl ?_)
  show wpAny _ _ (field (.ref z) 3 >>= _) _ _ _
  refine wpAny_bind (wpAny_field hz rfl (x := .ref TI) rfl ?_)
  refine wpAny_bind (wpAny_seqItems hTI rfl ?_)
  show wpAny _ _ (Builtin.SmallTypes.ownedTupleIsFree (.ref z) >>= _) _ _ _
  refine wpAny_bind ?_
  unfold Builtin.SmallTypes.ownedTupleIsFree
  refine wpAny_bind (wpAny_field hz rfl (x := .none) rfl (wpAny_pure ?_))
  simp only [if_true]
  refine wpAny_bind (wpAny_rule ?_)
  refine wpAny_bind (wpAny_field hz rfl (x := .ref TO) rfl ?_)
  refine wpAny_bind (wpAny_setField_rec hz (by simp) fun h₁ hz₁ hs₁ => ?_)
  replace hz₁ : IsZip h₁ z TI TO .ellipsis := hz₁
  have hot1 : HotAt A x1 h₁ := HotAt.keep hot fun o e => hs₁.extBut _ _ nz e
  refine wpAny_bind ?_
  simp only [List.zipIdx_cons, List.zipIdx_nil, List.forIn_cons, List.forIn_nil]
  refine wpAny_bind (wpAny_bind (wpAny_onRaise ?_))
  show wpAny _ _ (Builtin.SmallTypes.nextOf (.ref i1) >>= _) _ _ _
  cases hx : xs[k1]? with
  | none =>
    refine wpAny_bind (nextOf_list_end_hot (x1 := x1) (s := { s with heap := h₁ }) hot1 (h1.extBut hs₁.extBut D.i1z) (hl1.extBut hs₁.extBut D.l1z) hx fun h₂ e hs₂ he => ?_)
    obtain ⟨oe, hoe, hce⟩ := he
    have hz₂ : IsZip h₂ z TI TO .ellipsis := hs₂ _ _ D.i1z.symm hz₁
    have hez : e ≠ z := fun x => by subst x; rw [hz₂] at hoe; cases hoe; simp at hce
    refine wpAny_setField_rec hz₂ (by simp) fun h₃ _ hs₃ => hE h₃ e (fun c o c1 _ c3 _ x => hs₃.extBut _ _ c1 (hs₂ _ _ c3 (hs₁.extBut _ _ c1 x))) ⟨oe, hs₃.extBut _ _ hez hoe, hce⟩
  | some x =>
    have hy : ys[k2]? = none := by rcases hend with h | h; rw [hx] at h; cases h; exact h
    refine wpAny_bind (wpAny_nextOf_list_item (h1.extBut hs₁.extBut D.i1z) (hl1.extBut hs₁.extBut D.l1z) hx fun h₂ h1₂ hs₂ => wpAny_pure ?_)
    have hTO₂ : IsPair h₂ TO a b := hs₂.extBut _ _ D.TOi1 (hs₁.extBut _ _ D.TOz hTO)
    refine wpAny_bind (wpAny_seqItems hTO₂ rfl ?_)
    refine wpAny_bind (wpAny_updateSeq_pair hTO₂ fun h₃ hTO₃ hs₃ => ?_)
    refine wpAny_bind (wpAny_letGo (wpAny_pure ?_))
    refine wpAny_bind (wpAny_bind (wpAny_onRaise ?_))
    show wpAny _ _ (Builtin.SmallTypes.nextOf (.ref i2) >>= _) _ _ _
    have hot3 : HotAt A x1 h₃ := HotAt.keep hot1 fun o e => hs₃.extBut _ _ nTO (hs₂.extBut _ _ n1 e)
    refine wpAny_bind (nextOf_list_end_hot (x1 := x1) (s := { s with heap := h₃ }) hot3 (((h2.extBut hs₁.extBut D.i2z).extBut hs₂.extBut D.i12.symm).extBut hs₃.extBut D.TOi2.symm)
      (((hl2.extBut hs₁.extBut D.l2z).extBut hs₂.extBut D.l2i1).extBut hs₃.extBut D.l2TO) hy fun h₄ e hs₄ he => ?_)
    obtain ⟨oe, hoe, hce⟩ := he
    have hz₄ : IsZip h₄ z TI TO .ellipsis := hs₄ _ _ D.i2z.symm (hs₃.extBut _ _ D.TOz.symm (hs₂.extBut _ _ D.i1z.symm hz₁))
    have hez : e ≠ z := fun x => by subst x; rw [hz₄] at hoe; cases hoe; simp at hce
    refine wpAny_setField_rec hz₄ (by simp) fun h₅ _ hs₅ => hE h₅ e (fun c o c1 c2 c3 c4 x => hs₅.extBut _ _ c1 (hs₄ _ _ c4 (hs₃.extBut _ _ c2 (hs₂.extBut _ _ c3 (hs₁.extBut _ _ c1 x))))) ⟨oe, hs₅.extBut _ _ hez hoe, hce⟩
theorem pyNext_zip_end_hot {x1 z TI TO i1 i2 l1 l2 : Addr} {k1 k2 : Nat} {xs ys : Array Value} {a b : Value} {Q : Option Value → Shared → Prop} (hot : HotAt A x1 s.heap) (D : ZipApart z TI TO i1 i2 l1 l2)
    (hz : IsZip s.heap z TI TO .none) (hTI : IsPair s.heap TI (.ref i1) (.ref i2)) (hTO : IsPair s.heap TO a b)
    (h1 : s.heap.IsListIter i1 l1 k1) (h2 : s.heap.IsListIter i2 l2 k2) (hl1 : s.heap.IsList l1 xs) (hl2 : s.heap.IsList l2 ys) (hend : xs[k1]? = none ∨ ys[k2]? = none)
    (hQ : ∀ h', (∀ c o, c ≠ z → c ≠ TO → c ≠ i1 → c ≠ i2 → s.heap.get? c = some o → h'.get? c = some o) → Q none { s with heap := h' }) : wpAny (model prog w) A (pyNext (.ref z)) Q E s := by
  have hT : s.TypeIs (.ref z) "zip" := ⟨_, hz, rfl⟩
  unfold pyNext
  refine wpAny_bind (wpAny_attempt (wpAny_callSpecial?_slot (name := Str.ofString "__next__") hT F.slot_zip_next
    (wpAny_call_entry F.slot_zip_next hT F.entry_zip_next (zip_next_end_hot (x1 := x1) hot D hz hTI hTO h1 h2 hl1 hl2 hend fun h' e hk he => ?_) (F.args_zip_next_1 _))))
  obtain ⟨o, ho, hc⟩ := he
  refine wpAny_bind (wpAny_isInstance (T := "StopIteration") (b := true) ⟨o, ho, hc⟩ isSubtype_stop ?_)
  exact wpAny_pure (hQ _ hk)
end
/-! ### rules -/
section
variable {X : Cx} {pos : Pos}
theorem pg_tupH {es : List Expr} {k : Nat} {t : TGs} {n : Nat} (hc : HotC X) (h : PGs X es t)
    (hn : (assignEach es X.env).length = n := by rfl) (hst : (assignEach es X.env).findIdx? (·.1) = none := by rfl) : PG X (.Tuple es k pos) (gTup X.K n t) := by
  refine ⟨fun pins s σ H v u Q I r hw => ?_⟩
  obtain ⟨a, xs, e1, hq, hl, hw⟩ := hw
  subst e1
  cases r
  obtain ⟨its, rv, ht, hz⟩ := I.tuple hq
  obtain ⟨x1, hot⟩ := hc.at I
  refine assign_Tuple_tuple_hot hot ht (by simp [hn, ← hl, rv.length]) hst fun h' hx => ?_
  have I1 : Inv X pins σ H { s with heap := h' } := I.kept (t' := s.toks) fun b o e => hx b o (Nat.ne_of_lt (Heap.lt_size e)) e
  exact h.run pins _ σ H xs _ Q I1 (by simpa using rv) hw
theorem turn_zipH {P : Program} {w : World} {K : PySem.W.Frag} {elts : List Expr} {kk : Nat} {tpos : Pos} {a b z TI TO i1 i2 : Addr} (D : ZipApart z TI TO i1 i2 a b) :
    TurnH P w K (.Tuple elts kk tpos) (Itz K a b) [z, TI, TO, i1, i2] z (fun i h => IsZip h z TI TO .none ∧ IsPair h TI (.ref i1) (.ref i2) ∧ (∃ x y, IsPair h TO x y) ∧ h.IsListIter i1 a i ∧ h.IsListIter i2 b i) where
  mem := by simp
  obj := (turn_zip (P := P) (w := w) (K := K) (elts := elts) (kk := kk) (tpos := tpos) D).obj
  keep := (turn_zip (P := P) (w := w) (K := K) (elts := elts) (kk := kk) (tpos := tpos) D).keep
  item := by
    intro X hP hw hK hc i pins s σ H E I hf st hg
    subst hP hw hK
    obtain ⟨hz, hTI, ⟨x0, y0, hTO⟩, h1, h2⟩ := st
    obtain ⟨xs, ys, x, y, hqx, hqy, hx, hy⟩ := hg
    obtain ⟨its, rv, p, _⟩ := I.list hqx
    obtain ⟨its2, rv2, p2, _⟩ := I.list hqy
    obtain ⟨u, hu, ru⟩ := rv.get hx
    obtain ⟨u2, hu2, ru2⟩ := rv2.get hy
    have hzl : z < s.heap.objs.size := Heap.lt_size hz
    refine wpAny_pyNext_zip_item D hz hTI hTO h1 h2 p.isList p2.isList (x := u) (y := u2) (by simpa using hu) (by simpa using hu2) fun h' z' TO' h1' h2' hT hsz hk => ?_
    refine ⟨_, rfl, wpAny_letOwnedTupleGo_zip (s := { s with heap := h' }) z' fun h'' z'' sb => ?_⟩
    have hT2 : h''.get? s.heap.objs.size = some { cls := .type "tuple", data := .seq #[u, u2] } := (sb.2 _ (Nat.ne_of_gt hzl)).trans hT
    have new : ObjOk X.prog X.w (upd H s.heap.objs.size (.tup [x, y])) h'' s.heap.objs.size (.tup [x, y]) :=
      ⟨by show 2 ≤ sizeLine; decide, [u, u2], .cons ru (.cons ru2 .nil), ⟨_, hT2, rfl, _, rfl⟩⟩
    have I1 : Inv X pins σ (upd H s.heap.objs.size (.tup [x, y])) { s with heap := h'' } :=
      I.turnedNew (t' := s.toks) (ch := [z, TI, TO, i1, i2]) (fun c o hb q => (sb.2 c (fun q' => hb (by simp [q']))).trans (hk c o (fun q' => hb (by simp [q'])) (fun q' => hb (by simp [q'])) (fun q' => hb (by simp [q'])) (fun q' => hb (by simp [q'])) q)) hf (Nat.le_refl _) new
    refine ⟨.ref s.heap.objs.size, _, I1, rfl, ⟨_, x, y, rfl, I.hok.fresh (Nat.le_refl _), rfl, fun l hl => by rw [I.list_inj hl hqx]; exact hx, fun l hl => by rw [I.list_inj hl hqy]; exact hy⟩, ⟨z'', ?_, ⟨u, u2, ?_⟩, ?_, ?_⟩, fun c hcm => ?_⟩
    · exact (sb.2 _ D.TIz).trans (hk _ _ D.TIz D.TITO D.TIi1 D.TIi2 hTI)
    · exact (sb.2 _ D.TOz).trans TO'
    · exact h1'.at fun o q => (sb.2 _ D.i1z).trans q
    · exact h2'.at fun o q => (sb.2 _ D.i2z).trans q
    · have hlt : c < s.heap.objs.size := by
        have e' : c = z ∨ c = TI ∨ c = TO ∨ c = i1 ∨ c = i2 := by simpa using hcm
        rcases e' with q | q | q | q | q
        · rw [q]; exact hzl
        · rw [q]; exact Heap.lt_size hTI
        · rw [q]; exact Heap.lt_size hTO
        · rw [q]; obtain ⟨_, e1, _⟩ := h1; exact Heap.lt_size e1
        · rw [q]; obtain ⟨_, e2, _⟩ := h2; exact Heap.lt_size e2
      rw [upd_ne (Nat.ne_of_lt hlt)]
      exact (hf c hcm).1
  done := by
    intro X hP hw hK hc i pins s σ H E I hf st hg
    subst hP hw hK
    obtain ⟨hz, hTI, ⟨x0, y0, hTO⟩, h1, h2⟩ := st
    obtain ⟨xs, ys, hqx, hqy, hend⟩ := hg
    obtain ⟨its, rv, p, _⟩ := I.list hqx
    obtain ⟨its2, rv2, p2, _⟩ := I.list hqy
    have l1 := rv.length
    have l2 := rv2.length
    have he : its.toArray[i]? = none ∨ its2.toArray[i]? = none := by
      rcases hend with q | q
      · exact .inl (by simp; omega)
      · exact .inr (by simp; omega)
    obtain ⟨x1, hot⟩ := hc.at I
    exact pyNext_zip_end_hot hot D hz hTI hTO h1 h2 p.isList p2.isList he fun h' hk => ⟨rfl, I.turnedL (t' := s.toks) (ch := [z, TI, TO, i1, i2]) (fun c o hb q =>
      hk c o (fun q' => hb (by simp [q'])) (fun q' => hb (by simp [q'])) (fun q' => hb (by simp [q'])) (fun q' => hb (by simp [q'])) q) hf⟩
  self := fun A i s Q E st h => wpAny_pyIter_zip st.1 h
theorem pi_zipH {e e2 : Expr} {ta : TA} {p tpos : Pos} {elts : List Expr} {kk : Nat} (hg : Gl X "zip") (hm : X.mg "zip" = none) (ha : PA X [e, e2] ta)
    (hs : starEach [e, e2] X.env = (false, eval e X.env) :: starEach [e2] X.env := by rfl) (hpl : (backTo pos (starEach [e2] X.env)).any (·.1) = false := by rfl) :
    PIH X (.Tuple elts kk tpos) (.Call (.Name "zip" p) [e, e2] [] pos) (iZip X.K ta) := by
  refine ⟨fun pins s σ H R I h => ?_⟩
  refine Call_ (ld_blt I hg hm PyProof.Rows.boot_zip (PyProof.Rows.callWith_type1 (thn (ha.run pos pins s σ H _ I h) fun us s1 ⟨vs, H1, I1, r1, q1⟩ => ?_) hs hpl))
  obtain ⟨a, b, xs, ys, ex, hqx, hqy, q⟩ := q1
  subst ex
  cases r1 with
  | cons r rr =>
    cases rr with
    | cons r' rr =>
      cases rr
      cases r
      cases r'
      obtain ⟨its, rv, p1, _⟩ := I1.list hqx
      obtain ⟨its2, rv2, p2, _⟩ := I1.list hqy
      refine call_zip_2 p1.isList p2.isList fun h' hz hTI hTO h1 h2 hsz hk => wpAny_pyIter_zip hz ?_
      have I2 : Inv X pins σ H1 { s1 with heap := h' } := I1.kept (t' := s1.toks) hk
      refine ⟨s1.heap.objs.size + 4, [s1.heap.objs.size + 4, s1.heap.objs.size + 2, s1.heap.objs.size + 3, s1.heap.objs.size, s1.heap.objs.size + 1], _, _, H1, rfl, I2, turn_zipH (PySem.W.ktu_apart s1.heap.objs.size a b p1.lt p2.lt), ⟨hz, hTI, ⟨_, _, hTO⟩, h1, h2⟩, fun c hcm => ?_, q⟩
      have e' : c = s1.heap.objs.size + 4 ∨ c = s1.heap.objs.size + 2 ∨ c = s1.heap.objs.size + 3 ∨ c = s1.heap.objs.size ∨ c = s1.heap.objs.size + 1 := by simpa using hcm
      have hle : s1.heap.objs.size ≤ c := by
        rcases e' with z | z | z | z | z
        · rw [z]; exact Nat.le_add_right _ _
        · rw [z]; exact Nat.le_add_right _ _
        · rw [z]; exact Nat.le_add_right _ _
        · rw [z]; exact Nat.le_refl _
        · rw [z]; exact Nat.le_add_right _ _
      exact I1.fpOk hle (I1.hok.fresh hle)
/-- isinstance(e, c), e the exception that is pinned -/
theorem call_isP {a D : Addr} {oe : Obj} (C : ExcC X.K D) (hz : Zc (.ref D) none oe) (hf : ∃ vs, oe.data = .fields vs) (hp : (a, oe) ∈ X.pn) : CallR X (.builtin "isinstance") (rIsE X.K D a) := by
  intro pins s σ H xs us Q I r h
  obtain ⟨c, cv, b, rfl, hcv, e, q⟩ := h
  cases r with
  | cons rx rr =>
    cases rr with
    | cons rt rr =>
      cases rr
      cases rx
      have ec := hcv _ rt
      subst ec
      obtain ⟨hget, _⟩ := I.pin (a, oe) (List.mem_append.mpr (.inl hp))
      obtain ⟨vs, hv⟩ := hf
      have J : PySem.W.InstAt s.heap a oe D none := by
        obtain ⟨oc, od, oda, osl⟩ := oe
        obtain ⟨h1, h2⟩ := hz
        dsimp only at h1 h2 hv
        subst h1 h2 hv
        exact ⟨hget, rfl, rfl, trivial⟩
      exact PySem.W.kia_one (PySem.W.handS_kitx_exc C.hg C.hk C.hs C.hd C.ha C.hn C.ht C.hm) I.kIn J e (fun z => nomatch z) fun tk => ⟨.bl b, H, I.kept (t' := tk) fun _ _ z => z, rfl, q⟩
end
/-! ### comprehensions -/
abbrev blkH (X : Cx) (p : Addr × Obj) (s : Shared) (H : Hp) (scope : Scope) (cenv : Env) (fp : List Addr) : Cx := (X.blk s H scope cenv fp).tr [p] (fun _ _ => False)
section
variable {X : Cx} {pos : Pos}
theorem block_startH {pins : List (Addr × Obj)} {σ : L2.St} {H : Hp} {s : Shared} {scope : Scope} {own : List (Str × Nat)} {fp : List Addr} {p0 : Addr × Obj} (hot : Hot1 X.A p0) (hp0 : p0 ∈ X.pn) (I : Inv X pins σ H s) (ok : BlkOk X.N X.env.scope scope own) (hN : X.N.Nodup) (hfp : ∀ b ∈ fp, FpOk X pins H b ∧ b < s.heap.objs.size) :
    Inv (blkH X p0 s H scope (compEnvC scope (cellsFrom (s.heap.objs.size + 1) scope.names (cloFrom X.env.cells scope.names [])) s.heap.objs.size X.env) fp) [] (wipe σ (own.map (·.2))) H { s with heap := pushCells (s.heap.push { cls := .type "dict", data := .dict #[] }) scope.names } := by
  have J := block_start I ok hN hfp
  have P0 := I.pin p0 (List.mem_append_left _ hp0)
  refine ⟨J.ok.toTry _ _, J.os, J.bare, J.base, J.loc, J.cell, J.free, J.freeC, fun p hp => ?_, J.hok, J.len⟩
  have e : p = p0 := by simpa using (show p ∈ [p0] ++ ([] : List (Addr × Obj)) from hp)
  rw [e]
  refine ⟨pushCells_keeps _ _ _ _ (Heap.get?_push_of_some _ P0.1), P0.2.1, Nat.ne_of_lt (Heap.lt_size P0.1), fun hm => ?_, P0.2.2.2.2⟩
  exact (List.mem_cons.mp (I.stkSub p0.1 hm)).elim P0.2.2.1 P0.2.2.2.1
theorem lc_coreH {pins : List (Addr × Obj)} {s : Shared} {σ : L2.St} {H : Hp} {Q : VK} {elt tg iter : Expr} {ifs : List Expr} {scope : Scope} {own : List (Str × Nat)} {pos pos' : Pos} {wi : TI} {g : TG} {tt : TT} {te : TE} {use : Option (Value → Sem Unit)} {Qf : Value → Shared → Prop}
    {p0 : Addr × Obj} (hot : Hot1 X.A p0) (hp0 : p0 ∈ X.pn) (hN : X.N.Nodup) (I : Inv X pins σ H s) (hi : PIH X tg iter wi) (ok : BlkOk X.N X.env.scope scope own)
    (hg : ∀ (s : Shared) (H : Hp) (C : Addr) (cl : List (Str × Addr)) (fp : List Addr), PG (blkH X p0 s H scope (compEnvC scope cl C X.env) fp) tg g) (ht : ∀ (s : Shared) (H : Hp) (C : Addr) (cl : List (Str × Addr)) (fp : List Addr), PTs (blkH X p0 s H scope (compEnvC scope cl C X.env) fp) ifs tt)
    (he : ∀ (s : Shared) (H : Hp) (C : Addr) (cl : List (Str × Addr)) (fp : List Addr), PE (blkH X p0 s H scope (compEnvC scope cl C X.env) fp) elt te) (hs : ∀ x, foldedSetIterable iter X.env x = pure x)
    (h : tLc wi g tt te (own.map (·.2)) σ H Q)
    (hRR : ∀ D C s' m H', Inv X pins σ H' s' → Q (.ref D) H' → s'.heap.Ns C m → FpOk X pins H' C → compPost (model X.prog X.w) X.A X.xe use Qf (.ref D) C (.ok .next) s') :
    wpAny (model X.prog X.w) X.A (comprehension (.ListComp elt [⟨tg, iter, ifs, 0⟩] scope pos) scope X.env pos' (newList []) false (eval iter X.env) use) Qf X.xe s := by
  have hfree : ∀ y ∈ scope.names, y.2 = .free → ∃ c, X.env.cells.lookup y.1 = some c := fun y hy e => by
    rcases ok.free y hy e with k | k
    · exact I.ok.has _ (.inl k)
    · exact I.ok.has _ (.inr k)
  refine wpAny_comprehension_free (use := use) rfl hs (closure_ok hfree) ok.kind (fun y hy e => by rw [ok.uniq y hy, e])
    (thn (hi.run pins s σ H _ I h) fun xv s1 hx => thn hx fun itv s2 h2 => ?_)
  obtain ⟨it, fp, tn, J, H2, e, I2, T, st2, f2, q⟩ := h2
  subst e
  refine wpAny_newObj_type (newEnv_comp ?_) (by show 0 ≤ sizeLine; decide)
  generalize hD : s2.heap.objs.size = D
  have hDn : H2 D = none := I2.hok.fresh (Nat.le_of_eq hD)
  obtain ⟨W, ⟨m0, w0⟩, turn⟩ := q D hDn
  -- the new list
  generalize hs3 : ({ s2 with heap := s2.heap.push { cls := .type "list", data := .seq ([] : List Value).toArray } } : Shared) = s3
  have I3 : Inv X pins σ (upd H2 D (.lst [])) s3 := by
    rw [← hs3]
    refine I2.laid (t' := s2.toks) (fun b o e => Heap.get?_push_of_some _ e) (Nat.le_of_eq hD) ⟨Nat.zero_le _, [], 0, .nil, ?_⟩
    rw [← hD]
    exact Heap.get?_push_size _ rfl
  have h3 : s3.heap = s2.heap.push { cls := .type "list", data := .seq ([] : List Value).toArray } := by rw [← hs3]
  have sz : ∀ b ∈ fp, b < s2.heap.objs.size := fun b hb => by
    obtain ⟨o, e, _⟩ := T.obj _ _ st2 b hb
    exact Heap.lt_size e
  have f3 : ∀ b ∈ fp, FpOk X pins (upd H2 D (.lst [])) b ∧ b < s3.heap.objs.size := fun b hb => by
    have hlt := sz b hb
    refine ⟨⟨?_, (f2 b hb).2⟩, by rw [h3, Heap.size_push]; exact Nat.lt_succ_of_lt hlt⟩
    rw [upd_ne (by rw [← hD]; exact Nat.ne_of_lt hlt)]
    exact (f2 b hb).1
  have st3 : tn 0 s3.heap := T.keep _ _ _ st2 fun b _ o e => by rw [h3]; exact Heap.get?_push_of_some _ e
  have I4 := block_startH hot hp0 I3 ok hN f3
  have pg := hg s3 (upd H2 D (.lst [])) s3.heap.objs.size (cellsFrom (s3.heap.objs.size + 1) scope.names (cloFrom X.env.cells scope.names [])) fp
  have pt := ht s3 (upd H2 D (.lst [])) s3.heap.objs.size (cellsFrom (s3.heap.objs.size + 1) scope.names (cloFrom X.env.cells scope.names [])) fp
  have pe := he s3 (upd H2 D (.lst [])) s3.heap.objs.size (cellsFrom (s3.heap.objs.size + 1) scope.names (cloFrom X.env.cells scope.names [])) fp
  show codeAny _ _ (.compStart (.ListComp elt [⟨tg, iter, ifs, 0⟩] scope pos) 0 (.ref it) (.ref D) (compEnvC scope (cellsFrom (s3.heap.objs.size + 1) scope.names (cloFrom X.env.cells scope.names [])) s3.heap.objs.size X.env)) (compPost (model X.prog X.w) X.A X.xe use Qf (.ref D) s3.heap.objs.size) { s3 with heap := pushCells (s3.heap.push { cls := .type "dict", data := .dict #[] }) scope.names }
  have nfp : ∀ b ∈ fp, (upd H2 D (.lst [])) b = none := fun b hb => (f3 b hb).1.1
  generalize hce : compEnvC scope (cellsFrom (s3.heap.objs.size + 1) scope.names (cloFrom X.env.cells scope.names [])) s3.heap.objs.size X.env = ce at I4 pg pt pe ⊢
  have cL : ce.locals = s3.heap.objs.size := by subst hce; rfl
  generalize hH3 : upd H2 D (.lst []) = H3 at I3 I4 pg pt pe w0 nfp f3
  generalize hs4 : ({ s3 with heap := pushCells (s3.heap.push { cls := .type "dict", data := .dict #[] }) scope.names } : Shared) = s4 at I4 ⊢
  have st4 : tn 0 s4.heap := T.keep _ _ _ st3 fun b _ o e => by rw [← hs4]; exact pushCells_keeps _ _ _ _ (Heap.get?_push_of_some _ e)
  have stat : ∀ {σ' : L2.St} {H' : Hp} {s' : Shared}, Inv (blkH X p0 s3 H3 scope ce fp) [] σ' H' s' → (∀ b ∈ fp, H' b = none) → ∀ b ∈ fp, FpOk (blkH X p0 s3 H3 scope ce fp) [] H' b := fun {σ' H' s'} I' hn b hb =>
    ⟨hn b hb, (I'.ok.exf b hb).1, I'.ok.exfs b hb, .inl hb, fun x c e => (I'.ok.exf b hb).2 x c e, fun p hp => by
      have e : p = p0 := by simpa using (show p ∈ [p0] ++ ([] : List (Addr × Obj)) from hp)
      rw [e]
      exact (f2 b hb).2.2.2.2.2 p0 (List.mem_append_left _ hp0)⟩
  have hcB : HotC (blkH X p0 s3 H3 scope ce fp) := ⟨p0, hot, List.mem_singleton.mpr rfl⟩
  have loop : codeAny (model X.prog X.w) X.A (.compLoop (.ListComp elt [⟨tg, iter, ifs, 0⟩] scope pos) 0 (.ref it) (.ref D) ce) (compPost (model X.prog X.w) X.A X.xe use Qf (.ref D) s3.heap.objs.size) s4 := by
    refine compLoop_any (fun n s' => ∃ i H', Inv (blkH X p0 s3 H3 scope ce fp) [] (wipe σ (own.map (·.2))) H' s' ∧ tn i s'.heap ∧ (∀ b ∈ fp, H' b = none) ∧ W i n H') ?_ m0 ⟨0, H3, I4, st4, nfp, w0⟩
    rintro n s5 ⟨i, H5, I5, st5, n5, w5⟩
    rcases turn i n H5 w5 with ⟨stop, qq⟩ | ⟨go, Nx, hNx, step⟩
    · have td := T.done (blkH X p0 s3 H3 scope ce fp) rfl rfl rfl hcB i [] s5 _ H5 (fun _ _ => False) I5 (stat I5 n5) st5 stop
      refine thnF td fun r s6 ⟨hr, I6⟩ => ?_
      subst hr
      -- back in the def's context
      have I7 : Inv X pins σ H5 s6 := I3.call' (ch := fp) I6.os I6.base I6.hok I6.bare fun b hb => ⟨(f3 b hb).1.2.2.2.1, (f3 b hb).1.2.1, (f3 b hb).1.2.2.2.2.1, (f3 b hb).1.2.2.2.2.2⟩
      have nC : H5 s3.heap.objs.size = none := by
        have z : H5 ce.locals = none := I6.free
        rw [cL] at z
        exact z
      obtain ⟨m, hn, _⟩ := I6.loc
      have hn : s6.heap.Ns ce.locals m := hn
      rw [cL] at hn
      exact hRR D s3.heap.objs.size s6 m H5 I7 qq hn (I3.fpOk (Nat.le_refl _) nC)
    · have ti := T.item (blkH X p0 s3 H3 scope ce fp) rfl rfl rfl hcB i [] s5 _ H5 (fun _ _ => False) I5 (stat I5 n5) st5 go
      refine thnF ti fun r s6 ⟨u, hr, h6⟩ => ?_
      subst hr
      refine thnF h6 fun _ s7 ⟨x, H7, I7, r7, y7, st7, n7⟩ => ?_
      have I7' := I7.pinned (stat I7 n7) (T.obj _ _ st7)
      refine thnF (pg.run _ s7 _ H7 x u _ I7' r7 (step x H7 y7)) fun _ s8 ⟨σ8, H8, I8, hw8, q8⟩ => ?_
      refine thnF (pt.run _ s8 σ8 H8 _ I8 q8) fun b s9 ⟨H9, I9, q9⟩ => ?_
      -- the turn's end
      have fin : ∀ {s' : Shared} {H' : Hp}, Inv (blkH X p0 s3 H3 scope ce fp) ([] ++ pinsAt fp s7.heap) σ8 H' s' → Nx H' → ∃ m, m < n ∧ ∃ i H', Inv (blkH X p0 s3 H3 scope ce fp) [] (wipe σ (own.map (·.2))) H' s' ∧ tn i s'.heap ∧ (∀ b ∈ fp, H' b = none) ∧ W i m H' := fun {s' H'} I' nx => by
        obtain ⟨m', hm, w'⟩ := hNx H' nx
        have pin' : ∀ b ∈ fp, ∀ o, s7.heap.get? b = some o → s'.heap.get? b = some o ∧ H' b = none := fun b hb o e =>
          let z := I'.pin (b, o) (List.mem_append_right _ (List.mem_append_right _ (mem_pinsAt hb e)))
          ⟨z.1, z.2.1⟩
        have hl : (wipe σ (own.map (·.2))).length = σ8.length := by rw [← hw8, wipe_length]
        refine ⟨m', hm, i + 1, H', (I'.unpinned (pins := [])).weak hl (fun j v e => ?_), T.keep _ _ _ st7 fun b hb o e => (pin' b hb o e).1, fun b hb => ?_, w'⟩
        · rw [← hw8] at e
          exact (wipe_some e).1
        · obtain ⟨o, e, _⟩ := T.obj _ _ st7 b hb
          exact (pin' b hb o e).2
      cases b with
      | false =>
        simp only [Bool.false_eq_true, if_false] at q9 ⊢
        exact fin I9 q9
      | true =>
        simp only [if_true] at q9 ⊢
        refine thnF (pe.run _ s9 σ8 H9 _ I9 q9) fun z s10 ⟨yv, H10, I10, r10, acc, hD10, hz10, nx⟩ => ?_
        exact app_ok (X := blkH X p0 s3 H3 scope ce fp) I10 hD10 hz10 r10 fun s11 I11 => fin I11 nx
  exact codeAny_compStart_list loop (T.self X.A 0 _ _ _ st4 loop)
theorem pe_lcH {elt tg iter : Expr} {ifs : List Expr} {scope : Scope} {own : List (Str × Nat)} {pos : Pos} {wi : TI} {g : TG} {tt : TT} {te : TE} {p0 : Addr × Obj} (hot : Hot1 X.A p0) (hp0 : p0 ∈ X.pn) (hN : X.N.Nodup) (hi : PIH X tg iter wi) (ok : BlkOk X.N X.env.scope scope own)
    (hg : ∀ (s : Shared) (H : Hp) (C : Addr) (cl : List (Str × Addr)) (fp : List Addr), PG (blkH X p0 s H scope (compEnvC scope cl C X.env) fp) tg g) (ht : ∀ (s : Shared) (H : Hp) (C : Addr) (cl : List (Str × Addr)) (fp : List Addr), PTs (blkH X p0 s H scope (compEnvC scope cl C X.env) fp) ifs tt)
    (he : ∀ (s : Shared) (H : Hp) (C : Addr) (cl : List (Str × Addr)) (fp : List Addr), PE (blkH X p0 s H scope (compEnvC scope cl C X.env) fp) elt te) (hs : ∀ x, foldedSetIterable iter X.env x = pure x := by intro _; rfl) :
    PE X (.ListComp elt [⟨tg, iter, ifs, 0⟩] scope pos) (tLc wi g tt te (own.map (·.2))) := by
  refine ⟨fun pins s σ H Q I h => ?_⟩
  rw [eval_ListComp]
  refine lc_coreH hot hp0 hN I hi ok hg ht he hs h fun D C s' m H' I' q hn f => ⟨m, hn, fun h'' sb => ?_⟩
  obtain ⟨f0, f1, f2, f3, f4, f5⟩ := f
  exact ⟨.ref D, H', I'.turned (t' := s'.toks) (fun b o hb e => (sb.2 b hb).trans e) f0 f1 f3 f4 f5, rfl, q⟩end
end HotY

set_option Elab.async false
set_option linter.all false
set_option maxRecDepth 100000
set_option maxHeartbeats 2000000
/-! Methods of texts, zip. -/
namespace L3
open PySem PySem.Spec PyProof.Rows L2 Mi
section
variable {C : Cv} {E : XK} {H : Hp} {α : Al} {μ : Sto}
theorem RpAll.strs {K : PySem.W.Frag} {M : Addr → Prop} : ∀ {vs : List V} {ds : List D} {ys : List Str}, RpAll K H M vs ds → strsOf ds = some ys → vs = ys.map V.str
  | _, _, _, .nil, e => by cases e; rfl
  | _, .str b :: ds, ys, .cons r t, e => by
    unfold strsOf at e
    cases e1 : strsOf ds with
    | none => rw [e1] at e; cases e
    | some k' =>
      rw [e1] at e
      cases e
      cases r
      rw [RpAll.strs t e1]
      rfl
  | _, .none :: ds, _, .cons r t, e => by cases e
  | _, .bool _ :: ds, _, .cons r t, e => by cases e
  | _, .int _ :: ds, _, .cons r t, e => by cases e
  | _, .list _ :: ds, _, .cons r t, e => by cases e
  | _, .tuple _ :: ds, _, .cons r t, e => by cases e
  | _, .dict _ :: ds, _, .cons r t, e => by cases e
theorem rpAll_strs {K : PySem.W.Frag} {M : Addr → Prop} : ∀ ys : List Str, RpAll K H M (ys.map V.str) (ys.map PyData.str)
  | [] => .nil
  | y :: ys => .cons (.str y) (rpAll_strs ys)
/-- what a method of a text asks -/
def MeS (C : Cv) (op : Str → D → Option D) (r : V → List V → Hp → VK → Prop) : Prop := ∀ H α μ a y d z Q, Stor C H α μ → RpT C.K H (Own α μ) y d → op a d = some z → (∀ v H', Same H H' → Rp C.K H' (Own α μ) v z → Q v H') → r (.str a) [y] H Q
def MeS0 (C : Cv) (op : Str → Option D) (r : V → List V → Hp → VK → Prop) : Prop := ∀ H α μ a z Q, Stor C H α μ → op a = some z → (∀ v H', Same H H' → Rp C.K H' (Own α μ) v z → Q v H') → r (.str a) [] H Q
theorem m1_rd {op : Str → D → Option D} {r : V → List V → Hp → VK → Prop} {f g : EF} {σ : L2.St} {Q : VK} (hs : MeS C op r) (q : tD C E (eM1 op f g) σ H Q) : tM1 r (tD C E f) (tD C E g) σ H Q := by
  obtain ⟨ρ, α, μ, S, sl, q⟩ := q
  refine tD_bind S sl q fun v w H1 α1 μ1 st1 S1 sl1 r1 q1 => ?_
  split at q1
  · rename_i a
    cases r1
    refine ⟨⟨a, rfl⟩, tD_bind S1 sl1 q1 fun u w2 H2 α2 μ2 st2 S2 sl2 r2 q2 => ?_⟩
    obtain ⟨z, e, q3⟩ := PQ.ofO q2
    cases e1 : view μ2 w2 with
    | none => rw [e1] at e; cases e
    | some d =>
      simp only [e1, Option.bind_some] at e
      cases e2 : op a d with
      | none => rw [e2] at e; cases e
      | some d2 =>
        rw [e2] at e
        cases e
        exact hs H2 α2 μ2 a u d d2 Q S2 (r2.view S2 e1) e2 fun v H' sm rv => q3 v H' α2 (Same.step S2 sm) (S2.same sm) rv
  · exact (show False from q1).elim
theorem m0_rd {op : Str → Option D} {r : V → List V → Hp → VK → Prop} {f : EF} {σ : L2.St} {Q : VK} (hs : MeS0 C op r) (q : tD C E (eM0 op f) σ H Q) : tM0 r (tD C E f) σ H Q := by
  obtain ⟨ρ, α, μ, S, sl, q⟩ := q
  refine tD_bind S sl q fun v w H1 α1 μ1 st1 S1 sl1 r1 q1 => ?_
  split at q1
  · rename_i a
    cases r1
    refine ⟨⟨a, rfl⟩, ?_⟩
    obtain ⟨z, e, q3⟩ := PQ.ofO q1
    cases e2 : op a with
    | none => rw [e2] at e; cases e
    | some d2 =>
      rw [e2] at e
      cases e
      exact hs H1 α1 μ1 a d2 Q S1 e2 fun v H' sm rv => q3 v H' α1 (Same.step S1 sm) (S1.same sm) rv
  · exact (show False from q1).elim
theorem ms_new {ys : List Str} {Q : VK} (S : Stor C H α μ) (q : ∀ v H', Same H H' → Rp C.K H' (Own α μ) v (.list (ys.map PyData.str)) → Q v H') : rNewStrs ys H Q := fun p np => by
  obtain ⟨sm, rp⟩ := rp_newL S np (rpAll_strs ys)
  exact q _ _ sm rp
theorem ms_upper : MeS0 C mUpper (fun x xs H Q => ∃ a, x = .str a ∧ xs = [] ∧ a.length ≤ 5592405 ∧ Q (.str (Txt.upper a)) H) := by
  intro H α μ a z Q S e q
  unfold mUpper at e
  split at e
  · rename_i hl
    cases e
    exact ⟨a, rfl, rfl, Nat.le_trans hl (by decide), q _ H (.refl H) (.str _)⟩
  · cases e
theorem ms_split : MeS C mSplit (fun x xs H Q => ∃ a b, x = .str a ∧ xs = [.str b] ∧ (b.length == 0) = false ∧ a.length + 2 ≤ sizeLine ∧ rNewStrs (Txt.split a b) H Q) := by
  intro H α μ a y d z Q S r e q
  unfold mSplit at e
  split at e
  · rename_i b
    split at e
    · rename_i hh
      cases e
      have hy := r.str
      subst hy
      exact ⟨a, b, rfl, rfl, by simpa using hh.1, Nat.le_trans (Nat.add_le_add_right hh.2 2) (by decide), ms_new S q⟩
    · cases e
  · cases e
theorem ms_join : MeS C mJoin (fun x xs H Q => ∃ a p, ∃ ys : List Str, x = .str a ∧ xs = [.ref p] ∧ (SqL C.K H p (ys.map V.str) ∨ SqT C.K H p (ys.map V.str)) ∧
    (ys.map (·.length)).sum + ys.length * a.length ≤ 16777216 ∧ Q (.str (Txt.join a ys)) H) := by
  intro H α μ a y d z Q S r e q
  unfold mJoin at e
  split at e
  · rename_i l
    cases e1 : strsOf l with
    | none => rw [e1] at e; cases e
    | some ys =>
      rw [e1] at e
      simp only [Option.bind_some] at e
      split at e
      · rename_i hj
        cases e
        obtain ⟨p1, xs, rfl, h1, r1⟩ := r.list
        have hx := r1.strs e1
        subst hx
        exact ⟨a, p1, ys, rfl, rfl, .inl (.inl h1), Nat.le_trans hj (by decide), q _ H (.refl H) (.str _)⟩
      · cases e
  · rename_i l
    cases e1 : strsOf l with
    | none => rw [e1] at e; cases e
    | some ys =>
      rw [e1] at e
      simp only [Option.bind_some] at e
      split at e
      · rename_i hj
        cases e
        obtain ⟨p1, xs, rfl, h1, r1⟩ := r.tuple
        have hx := r1.strs e1
        subst hx
        exact ⟨a, p1, ys, rfl, rfl, .inr h1, Nat.le_trans hj (by decide), q _ H (.refl H) (.str _)⟩
      · cases e
  · cases e
end
section
variable {X : Cx} {T : List (Addr × Str)} {E : XK} {j : Nat} {pos apos : Pos} {tg a b c : Expr} {f g h : EF}
theorem de_m1 {id : String} {name : Str} {op : Str → D → Option D} {r : V → List V → Hp → VK → Prop} (slot : Slot "str" name id) (ty : typeOf (.builtin id) = pure (.type "method_descriptor")) (rule : MtR X id r) (hm : MeS (CvX X T) op r) (ha : DE X T E a f) (hb : DE X T E b g)
    (hs : starEach [b] X.env = [(false, eval b X.env)] := by rfl) (hbase : attributeBase a name X.env (eval a X.env) = eval a X.env := by rfl) (hline : (apos.endLine == pos.line) = true := by rfl) : DE X T E (.Call (.Attribute a name apos) [b] [] pos) (eM1 op f g) :=
  pe_imp (pe_m1 slot ty rule ha hb hs hbase hline) fun σ H Q q => m1_rd hm q
theorem de_m0 {id : String} {name : Str} {op : Str → Option D} {r : V → List V → Hp → VK → Prop} (slot : Slot "str" name id) (ty : typeOf (.builtin id) = pure (.type "method_descriptor")) (rule : MtR X id r) (hm : MeS0 (CvX X T) op r) (ha : DE X T E a f)
    (hbase : attributeBase a name X.env (eval a X.env) = eval a X.env := by rfl) (hline : (apos.endLine == pos.line) = true := by rfl) : DE X T E (.Call (.Attribute a name apos) [] [] pos) (eM0 op f) :=
  pe_imp (pe_m0 slot ty rule ha hbase hline) fun σ H Q q => m0_rd hm q
theorem de_split (ha : DE X T E a f) (hb : DE X T E b g) (hs : starEach [b] X.env = [(false, eval b X.env)] := by rfl) (hbase : attributeBase a "split" X.env (eval a X.env) = eval a X.env := by rfl) (hline : (apos.endLine == pos.line) = true := by rfl) :
    DE X T E (.Call (.Attribute a "split" apos) [b] [] pos) (eM1 mSplit f g) := de_m1 PySem.F.slot_str_split PySem.F.type_str_split mt_split ms_split ha hb hs hbase hline
theorem de_upper (ha : DE X T E a f) (hbase : attributeBase a "upper" X.env (eval a X.env) = eval a X.env := by rfl) (hline : (apos.endLine == pos.line) = true := by rfl) :
    DE X T E (.Call (.Attribute a "upper" apos) [] [] pos) (eM0 mUpper f) := de_m0 PySem.F.slot_str_upper PySem.F.type_str_upper mt_upper ms_upper ha hbase hline
theorem de_join (ha : DE X T E a f) (hb : DE X T E b g) (hs : starEach [b] X.env = [(false, eval b X.env)] := by rfl) (hbase : attributeBase a "join" X.env (eval a X.env) = eval a X.env := by rfl) (hline : (apos.endLine == pos.line) = true := by rfl) :
    DE X T E (.Call (.Attribute a "join" apos) [b] [] pos) (eM1 mJoin f g) := de_m1 PySem.F.slot_str_join PySem.F.type_str_join mt_join ms_join ha hb hs hbase hline
end
/-! ### zip -/
theorem zip_at {l r : List D} {i : Nat} {d : D} (h : ((l.zip r).map fun p => PyData.tuple [p.1, p.2])[i]? = some d) : ∃ x y, l[i]? = some x ∧ r[i]? = some y ∧ d = .tuple [x, y] := by
  rw [List.getElem?_map] at h
  cases e : (l.zip r)[i]? with
  | none => rw [e] at h; cases h
  | some p =>
    rw [e] at h
    cases h
    obtain ⟨h1, h2⟩ := List.getElem?_zip_eq_some.mp (show (l.zip r)[i]? = some (p.1, p.2) from e)
    exact ⟨p.1, p.2, h1, h2, rfl⟩
theorem yields_zip {C : Cv} {H : Hp} {M : Addr → Prop} {a b : Addr} {xs ys : List V} {l r : List D} (hx : Rd H a (.lst xs)) (nx : ¬ M a) (rx : RpAll C.K H M xs l) (hy : Rd H b (.lst ys)) (ny : ¬ M b) (ry : RpAll C.K H M ys r) :
    Yields C (Itz C.K a b) ((l.zip r).map fun p => .tuple [p.1, p.2]) H M := by
  intro i H2 M2 st fr
  have h2 : SqL C.K H2 a xs := .inl (st.rd hx nx).1
  have h3 : SqL C.K H2 b ys := .inl (st.rd hy ny).1
  have r2 := rx.ext st
  have r3 := ry.ext st
  refine ⟨fun d e => ?_, fun h => ⟨xs, ys, h2, h3, ?_⟩⟩
  · obtain ⟨x, y, e1, e2, rfl⟩ := zip_at e
    obtain ⟨v, h4, h5⟩ := r2.get e1
    obtain ⟨u, h6, h7⟩ := r3.get e2
    refine ⟨⟨xs, ys, v, u, h2, h3, h4, h6⟩, fun z H' yy => ?_⟩
    obtain ⟨T, x', y', rfl, nT, rfl, g1, g2⟩ := yy
    have e3 := g1 xs h2
    have e4 := g2 ys h3
    rw [h4] at e3; cases e3
    rw [h6] at e4; cases e4
    exact rp_newT nT (.cons h5 (.cons h7 .nil))
  · rw [r2.length, r3.length]
    rw [List.length_map, List.length_zip] at h
    omega
def DIH (X : Cx) (T : List (Addr × Str)) (E : XK) (tg e : Expr) (it : IF) : Prop := L2H.PIH X tg e (tI (CvX X T) E it)
section
variable {X : Cx} {T : List (Addr × Str)} {E : XK} {j : Nat} {pos : Pos} {tg a b c : Expr} {f g h : EF}
theorem zip_rd {σ : L2.St} {H : Hp} {R' : It → Hp → Prop} (q : tI (CvX X T) E (iZipD f g) σ H R') : iZip X.K (tCons (tD (CvX X T) E f) (tCons (tD (CvX X T) E g) tNil)) σ H R' := by
  obtain ⟨ρ, α, μ, S, sl, q⟩ := q
  refine tD_bindI S sl q fun v w H1 α1 μ1 st1 S1 sl1 r1 q1 => ?_
  refine tD_bindI S1 sl1 q1 fun u w2 H2 α2 μ2 st2 S2 sl2 r2 q2 => ?_
  split at q2
  · rename_i l0 μ0 e0
    split at e0
    · rename_i l r
      split at e0
      · rename_i hl
        cases e0
        have r1' := r1.step st2
        cases r1' with
        | lst h1 n1 rr1 =>
          cases r2 with
          | lst h2 n2 rr2 =>
            refine ⟨_, _, _, _, rfl, .inl h1, .inl h2, q2 _ H2 α2 (.refl _ _ _) S2 ?_ (yields_zip h1 n1 rr1 h2 n2 rr2)⟩
            rw [List.length_map, List.length_zip]
            exact Nat.le_trans (Nat.min_le_left _ _) (Nat.le_trans hl (by decide))
      · cases e0
    · cases e0
  · rename_i x0 μ0 e0
    split at e0
    · split at e0 <;> cases e0
    · cases e0
  · exact q2.elim
theorem di_zip {p tpos : Pos} {elts : List Expr} {kk : Nat} (ha : DE X T E a f) (hb : DE X T E b g) (hm : X.mg "zip" = none) (hg : Gl X "zip" := by rfl)
    (hs : starEach [a, b] X.env = (false, eval a X.env) :: starEach [b] X.env := by rfl) (hs2 : starEach [b] X.env = (false, eval b X.env) :: starEach [] X.env := by rfl) (hpl : (backTo pos (starEach [b] X.env)).any (·.1) = false := by rfl) :
    DI X T E (.Tuple elts kk tpos) (.Call (.Name "zip" p) [a, b] [] pos) (iZipD f g) :=
  pi_imp (pi_zip hg hm (pa_cons ha (pa_cons hb pa_nil hs2) hs) hs hpl) fun σ H R' q => zip_rd q
theorem di_zipH {p tpos : Pos} {elts : List Expr} {kk : Nat} (ha : DE X T E a f) (hb : DE X T E b g) (hm : X.mg "zip" = none) (hg : Gl X "zip" := by rfl)
    (hs : starEach [a, b] X.env = (false, eval a X.env) :: starEach [b] X.env := by rfl) (hs2 : starEach [b] X.env = (false, eval b X.env) :: starEach [] X.env := by rfl) (hpl : (backTo pos (starEach [b] X.env)).any (·.1) = false := by rfl) :
    DIH X T E (.Tuple elts kk tpos) (.Call (.Name "zip" p) [a, b] [] pos) (iZipD f g) :=
  ⟨fun pins s σ H R' I q => (HotY.pi_zipH hg hm (pa_cons ha (pa_cons hb pa_nil hs2) hs) hs hpl).run pins s σ H R' I (zip_rd q)⟩
/-! ### while an exception is handled -/
theorem dg_tupH {ts : List TF} {es : List Expr} {k : Nat} {ks : List Nat} (hc : L2H.HotC X) (h : DGs X T es ts ks) (hn : (assignEach es X.env).length = es.length := by rfl) (hst : (assignEach es X.env).findIdx? (·.1) = none := by rfl) : DG X T (.Tuple es k pos) (Mi.tTup ts) ks :=
  pg_imp (HotY.pg_tupH hc h.pgs hn hst) fun v σ H Q ⟨ρ, α, μ, d, ρ1, S, sl, r, e, q⟩ => by
    unfold Mi.tTup at e
    split at e
    · rename_i ds
      obtain ⟨p1, ys, rfl, h1, r1⟩ := RpT.tuple (.inl r)
      exact ⟨p1, ys, rfl, h1, by rw [r1.length, h.len, tTups_len e], ρ, α, μ, ds, ρ1, S, sl, r1, e, q⟩
    · cases e
theorem de_lcH {it : IF} {t : TF} {ks : List Nat} {elt iter : Expr} {ifs : List Expr} {scope : Scope} {own : List (Str × Nat)} {p0 : Addr × Obj} (hot : L2H.Hot1 X.A p0) (hp0 : p0 ∈ X.pn) (nd : X.N.Nodup) (hi : DIH X T E tg iter it) (ok : BlkOk X.N X.env.scope scope own)
    (hg : ∀ (s : Shared) (H : Hp) (D : Addr) (cl : List (Str × Addr)) (fp : List Addr), DG (HotY.blkH X p0 s H scope (compEnvC scope cl D X.env) fp) T tg t ks)
    (ht : ∀ (s : Shared) (H : Hp) (D : Addr) (cl : List (Str × Addr)) (fp : List Addr), DC (HotY.blkH X p0 s H scope (compEnvC scope cl D X.env) fp) T ifs f)
    (he : ∀ (s : Shared) (H : Hp) (D : Addr) (cl : List (Str × Addr)) (fp : List Addr), DE (HotY.blkH X p0 s H scope (compEnvC scope cl D X.env) fp) T E0 elt g)
    (hw : ∀ k ∈ ks, k ∈ own.map (·.2) := by decide) (hs : ∀ x, foldedSetIterable iter X.env x = pure x := by intro _; rfl) :
    DE X T E (.ListComp elt [⟨tg, iter, ifs, 0⟩] scope pos) (eLc (own.map (·.2)) t it f g) :=
  pe_imp (HotY.pe_lcH (g := tG (CvX X T) t ks) (tt := fun σ H Q => tD (CvX X T) E0 f σ H fun v H1 => ∃ b, v = .bl b ∧ Q b H1) (te := tD (CvX X T) E0 g) hot hp0 nd hi ok hg (fun s H D cl fp => (ht s H D cl fp).pts) (fun s H D cl fp => he s H D cl fp) hs) fun σ H Q q => lc_rd hw q
/-- isinstance of the error that is pinned -/
theorem de_isX {x y : Str} {p p2 : Pos} {a0 D : Addr} {oe : Obj} {bb : Bool} {c : V} {cv : Value} (C : ExcC X.K D) (hz : Zc (.ref D) none oe) (hfl : ∃ vs, oe.data = .fields vs) (hp : (a0, oe) ∈ X.pn) (hm : X.mg x = none) (hv : bootBuiltins x = some (.builtin "isinstance"))
    (hc : PE X (.Name y p2) (tC c)) (hcv : ∀ u, RelV c u → u = cv) (hb : PySem.W.kitOne X.K (.ref D) cv = some bb) (ha : DE X T E a f)
    (hg : Gl X x := by rfl) (hn : x ≠ "__name__" := by decide) (hdb : (x == ("__debug__" : Str)) = false := by decide)
    (he : starEach (a :: [.Name y p2]) X.env = (false, eval a X.env) :: starEach [.Name y p2] X.env := by rfl) (hpl : (backTo pos (starEach [.Name y p2] X.env)).any (·.1) = false := by rfl) (he2 : starEach [.Name y p2] X.env = (false, eval (.Name y p2) X.env) :: starEach [] X.env := by rfl) :
    DE X T E (.Call (.Name x p) [a, .Name y p2] [] pos) (eIsX a0 bb f) :=
  pe_imp (pe_callB (HotY.call_isP C hz hfl hp) hg hm hv (pa_cons ha (pa_cons hc pa_nil he2) he) hn hdb he hpl) fun σ H Q ⟨ρ, α, μ, S, sl, q⟩ => tD_bind S sl q fun v w H1 α1 μ1 st S1 sl1 rv q1 => by
    split at q1
    · rename_i k
      split at q1
      · rename_i hk
        subst hk
        obtain rfl := rv
        exact ⟨c, cv, bb, rfl, hcv, hb, PQ.bl S1 q1⟩
      · exact (show False from q1).elim
    · exact (show False from q1).elim
end
end L3

set_option Elab.async false
set_option linter.all false
set_option maxRecDepth 100000
set_option maxHeartbeats 2000000
/-! enumerate over a tuple or a list. -/
namespace EnY
open PySem PySem.Spec PyProof.Rows L2
set_option maxHeartbeats 4000000 in
theorem meets_enumerate_newT {v : Value} {o : Obj} {H : Heap → Prop} (B : Begins v o H) :
    Meets (Builtin.«enumerate.__new__» ⟨[.type "enumerate", v], []⟩) (fun _ R s => H s.heap ∧
      R (.ok (.ret (.ref (s.heap.push o).objs.size))) { s with heap := (s.heap.push o).push { cls := .type "enumerate", data := .fields #[.none, .bool false, .ref s.heap.objs.size, rawInt 0, .none, .none] } }) :=
  .of_wp fun prog w A R s h => by
    obtain ⟨hp, g, d, tk, os⟩ := s; obtain ⟨h1, h⟩ := h
    have hsub := sub_enumerate
    have q1 : ∀ {A' : Around} {E : Value → Shared → Prop} {Q : Value → Shared → Prop}, Q (.ref hp.objs.size) ⟨hp.push o, g, d, tk, os⟩ → wpAny (model prog w) A' (pyIter v) Q E ⟨hp, g, d, tk, os⟩ :=
      fun q => B.iter prog w _ _ ⟨hp, g, d, tk, os⟩ _ h1 q
    wp_walk using q1
    refine wpAny_stack_any fun st => wpAny_pure ?_
    split
    · rename_i c _ _ _ _ _
      cases (c == Value.type "enumerate")
      · wp_walk using q1
        exact ⟨_, rfl, h⟩
      · wp_walk using q1
        exact ⟨_, rfl, h⟩
    · wp_walk using q1
      exact ⟨_, rfl, h⟩
theorem enum_begin1 {prog : Program} {w : World} {A : Around} {E : Value → Shared → Prop} {s : Shared} {v : Value} {o : Obj} {H : Heap → Prop} {Q : Value → Shared → Prop} (B : Begins v o H) (h1 : H s.heap)
    (h : ∀ h', IsEnum h' (s.heap.objs.size + 1) s.heap.objs.size 0 .none → h'.get? s.heap.objs.size = some o → h'.objs.size = s.heap.objs.size + 2 →
      (∀ b o, s.heap.get? b = some o → h'.get? b = some o) → Q (.ref (s.heap.objs.size + 1)) { s with heap := h' }) :
    wpAny (model prog w) A (call (.type "enumerate") [v]) Q E s := by
  refine callType_new F.called_enumerate (by decide) (F.typeCall_enumerate_1 _) (F.newCall_enumerate_1 _) (fun obj => F.args_object_init_2 obj _) F.entry_enumerate_new
    (meets_enumerate_newT B) ⟨h1, ?_⟩
  have hz : (s.heap.push o).objs.size = s.heap.objs.size + 1 := Heap.size_push ..
  show _ ∧ _
  rw [hz]
  have he : IsEnum ((s.heap.push o).push { cls := .type "enumerate", data := .fields #[.none, .bool false, .ref s.heap.objs.size, rawInt 0, .none, .none] }) (s.heap.objs.size + 1) s.heap.objs.size 0 .none := by
    have := Heap.get?_push_size (s.heap.push o) (o := { cls := .type "enumerate", data := .fields #[.none, .bool false, .ref s.heap.objs.size, rawInt 0, .none, .none] }) rfl
    rw [hz] at this; exact this
  refine ⟨⟨_, he, rfl⟩, h _ he (Heap.get?_push_of_some _ (Heap.get?_push_size _ B.free)) (by rw [Heap.size_push, hz]) fun b o x => Heap.get?_push_of_some _ (Heap.get?_push_of_some _ x)⟩
/-- next of enumerate(tuple) at the end -/
theorem tup_end {prog : Program} {w : World} {A : Around} {E : Value → Shared → Prop} {s : Shared} {e it l : Addr} {i : Nat} {items : Array Value} {old : Value} {Q : Option Value → Shared → Prop} (hh : A.handled = none)
    (he : IsEnum s.heap e it i old) (hit : s.heap.IsTupleIter it l i) (hl : s.heap.IsTuple l items) (hx : items[i]? = none)
    (hQ : ∀ h', Heap.ExtBut it s.heap h' → Q none { s with heap := h' }) : wpAny (model prog w) A (pyNext (.ref e)) Q E s := by
  have hT : s.TypeIs (.ref e) "enumerate" := ⟨_, he, rfl⟩
  unfold pyNext
  refine wpAny_bind (wpAny_attempt (wpAny_callSpecial?_slot (name := Str.ofString "__next__") hT F.slot_enumerate_next
    (wpAny_call_entry F.slot_enumerate_next hT F.entry_enumerate_next ?_ (F.args_enumerate_next_1 _))))
  show wpAny _ _ (field (.ref e) 2 >>= _) _ _ _
  refine wpAny_bind (wpAny_field he rfl (x := .ref it) rfl ?_)
  refine wpAny_bind (wpAny_nextOf_tuple_end hh hit hl hx fun h' x he' hx' => ?_)
  obtain ⟨o, ho, hc⟩ := hx'
  refine wpAny_bind (wpAny_isInstance (T := "StopIteration") (b := true) ⟨o, ho, hc⟩ isSubtype_stop ?_)
  exact wpAny_pure (hQ _ he')
/-- the tuple at a, each item in a new pair -/
def IteT (K : PySem.W.Frag) (a : Addr) : It :=
  ⟨fun i H => ∃ (xs : List V) (x : V), SqT K H a xs ∧ xs[i]? = some x, fun i H v H' => ∃ T x, v = .ref T ∧ H T = none ∧ H' = upd H T (.tup [.int (i : Nat), x]) ∧ ∀ xs, SqT K H a xs → xs[i]? = some x, fun i H => ∃ xs : List V, SqT K H a xs ∧ xs.length ≤ i⟩
theorem turn_enumT {P : Program} {w : World} {K : PySem.W.Frag} {elts : List Expr} {kk : Nat} {tpos : Pos} (a e it : Addr) :
    Turn P w K (.Tuple elts kk tpos) (IteT K a) [e, it] e (fun i h => (∃ old, IsEnum h e it ((i : Nat) : Int) old) ∧ h.IsTupleIter it a i ∧ e ≠ it) where
  mem := by simp
  obj := fun i h st b hb => by
    obtain ⟨⟨old, he⟩, ⟨o, ho, hc, hd⟩, _⟩ := st
    have e' : b = e ∨ b = it := by simpa using hb
    rcases e' with z | z
    · rw [z]; exact ⟨_, he, fun v q => nomatch q⟩
    · rw [z]; exact ⟨o, ho, fun v q => by rw [hd] at q; cases q⟩
  keep := fun i h h' st k => let ⟨⟨old, he⟩, hi, hne⟩ := st; ⟨⟨old, k e (by simp) _ he⟩, hi.at fun o q => k it (by simp) o q, hne⟩
  item := by
    intro X hP hw hK hc i pins s σ H E I hf st hg
    subst hP hw hK
    obtain ⟨⟨old, he⟩, hit, hne⟩ := st
    obtain ⟨xs, x, hq, hx⟩ := hg
    obtain ⟨its, rv, p, hz⟩ := I.tuple hq
    obtain ⟨u, hu, ru⟩ := rv.get hx
    have hel : e < s.heap.objs.size := Heap.lt_size he
    have hil : it < s.heap.objs.size := by obtain ⟨_, q, _⟩ := hit; exact Heap.lt_size q
    have hta : a ≠ it := fun z => by
      obtain ⟨o1, h1, c1, _⟩ := p
      obtain ⟨o2, h2, c2, _⟩ := hit
      rw [z, h2] at h1; cases h1
      rw [c1] at c2
      injection c2 with c3
      exact absurd c3 (by decide)
    have D := Draws.tuple (prog := X.prog) (w := X.w) (A := X.A.in1) (I.ok.hd hc) it a hta its.toArray
    have hne2 : e ≠ a := fun z => by
      obtain ⟨o1, h1, c1, _⟩ := p
      rw [← z, he] at h1; cases h1
      injection c1 with c3
      exact absurd c3 (by decide)
    have hlt : i < its.toArray.size := by
      have := (List.getElem?_eq_some_iff.mp hu).1
      simpa using this
    refine wpAny_pyNext_enum_itemD D he ⟨hit, p⟩ hlt hne (by simp [hne, hne2]) fun x' h' tk hP ho hs' hT hsz hk => ?_
    have ex : x' = u := by
      have hP : its.toArray[i]? = some x' := hP
      rw [List.getElem?_toArray, hu] at hP
      exact (Option.some.inj hP).symm
    subst ex
    refine ⟨_, rfl, wpAny_letOwnedTupleGo_enum (s := { s with heap := h', toks := tk + 1 }) ho fun h'' he' sb => ?_⟩
    have hT2 : h''.get? s.heap.objs.size = some { cls := .type "tuple", data := .seq #[.int i tk, x'] } := (sb.2 _ (Nat.ne_of_gt hel)).trans hT
    have new : ObjOk X.prog X.w (upd H s.heap.objs.size (.tup [.int (i : Nat), x])) h'' s.heap.objs.size (.tup [.int (i : Nat), x]) :=
      ⟨by show 2 ≤ sizeLine; decide, [.int i tk, x'], .cons ⟨_, rfl⟩ (.cons ru .nil), ⟨_, hT2, rfl, _, rfl⟩⟩
    have I1 : Inv X pins σ (upd H s.heap.objs.size (.tup [.int (i : Nat), x])) { s with heap := h'', toks := tk + 1 } :=
      I.turnedNew (ch := [e, it]) (fun b ob hb q => (sb.2 b (fun z => hb (by simp [z]))).trans (hk b ob (fun z => hb (by simp [z])) (fun z => hb (by simp [z])) q)) hf (Nat.le_refl _) new
    refine ⟨.ref s.heap.objs.size, _, I1, rfl, ⟨_, x, rfl, I.hok.fresh (Nat.le_refl _), rfl, fun ys hy => by rw [I.tuple_inj hy hq]; exact hx⟩, ⟨⟨x', ?_⟩, hs'.1.at fun o q => (sb.2 it (Ne.symm hne)).trans q, hne⟩, fun b hb => ?_⟩
    · have e1 : ((i + 1 : Nat) : Int) = (i : Int) + 1 := by omega
      rw [e1]; exact he'
    · have hb' : b < s.heap.objs.size := by
        have e' : b = e ∨ b = it := by simpa using hb
        rcases e' with z | z
        · rw [z]; exact hel
        · rw [z]; exact hil
      rw [upd_ne (Nat.ne_of_lt hb')]
      exact (hf b hb).1
  done := by
    intro X hP hw hK hc i pins s σ H E I hf st hg
    subst hP hw hK
    obtain ⟨⟨old, he⟩, hit, hne⟩ := st
    obtain ⟨xs, hq, hx⟩ := hg
    obtain ⟨its, rv, p, hz⟩ := I.tuple hq
    obtain ⟨f0, f1, f2, f3, f4, f5⟩ := hf it (by simp)
    have hl := rv.length
    exact tup_end (I.ok.hd hc) he hit p (by simp; omega) fun h' eb => ⟨rfl, I.turned (t' := s.toks) (fun b o hb q => eb b o hb q) f0 f1 f3 f4 f5⟩
  self := fun A i s Q E st h => let ⟨⟨_, he⟩, _⟩ := st; wpAny_pyIter_enum he h
def iEnumT (K : PySem.W.Frag) (ta : TA) : TI := fun σ H R => ta σ H fun vs H1 => ∃ a xs, vs = [.ref a] ∧ ((SqL K H1 a xs ∧ R (Ite K a) H1) ∨ (SqT K H1 a xs ∧ R (IteT K a) H1))
theorem pi_enumT {X : Cx} {e : Expr} {ta : TA} {p pos tpos : Pos} {elts : List Expr} {kk : Nat} (hg : Gl X "enumerate") (hm : X.mg "enumerate" = none) (ha : PA X [e] ta) (hs : starEach [e] X.env = [(false, eval e X.env)] := by rfl) :
    PI X (.Tuple elts kk tpos) (.Call (.Name "enumerate" p) [e] [] pos) (iEnumT X.K ta) := by
  refine ⟨fun pins s σ H R I h => ?_⟩
  refine Call_ (ld_blt I hg hm boot_enumerate (PyProof.Rows.callWith_type1 (thn (ha.run pos pins s σ H _ I h) fun us s1 ⟨vs, H1, I1, r1, q1⟩ => ?_) hs rfl))
  obtain ⟨a, xs, ex, q1⟩ := q1
  subst ex
  cases r1 with
  | cons r rr =>
    cases rr
    cases r
    have fp : ∀ b, b ∈ [s1.heap.objs.size + 1, s1.heap.objs.size] → FpOk X pins H1 b := fun b hb => by
      have e' : b = s1.heap.objs.size + 1 ∨ b = s1.heap.objs.size := by simpa using hb
      have hle : s1.heap.objs.size ≤ b := by
        rcases e' with z | z
        · rw [z]; exact Nat.le_add_right _ _
        · rw [z]; exact Nat.le_refl _
      exact I1.fpOk hle (I1.hok.fresh hle)
    rcases q1 with ⟨hq, q⟩ | ⟨hq, q⟩
    · obtain ⟨its, rv, p', hz⟩ := I1.list hq
      refine call_enumerate_list p'.isList fun h' he hit hsz hk => wpAny_pyIter_enum he ?_
      have I2 : Inv X pins σ H1 { s1 with heap := h' } := I1.kept (t' := s1.toks) hk
      exact ⟨s1.heap.objs.size + 1, [s1.heap.objs.size + 1, s1.heap.objs.size], _, _, H1, rfl, I2, turn_enum a (s1.heap.objs.size + 1) s1.heap.objs.size, ⟨⟨.none, he⟩, hit, Nat.succ_ne_self _⟩, fp, q⟩
    · obtain ⟨its, rv, p', hz⟩ := I1.tuple hq
      refine enum_begin1 (begins_tuple a its.toArray) p' fun h' he hit hsz hk => wpAny_pyIter_enum he ?_
      have I2 : Inv X pins σ H1 { s1 with heap := h' } := I1.kept (t' := s1.toks) hk
      exact ⟨s1.heap.objs.size + 1, [s1.heap.objs.size + 1, s1.heap.objs.size], _, _, H1, rfl, I2, turn_enumT a (s1.heap.objs.size + 1) s1.heap.objs.size, ⟨⟨.none, he⟩, ⟨_, hit, rfl, rfl⟩, Nat.succ_ne_self _⟩, fp, q⟩
end EnY
namespace L3
open PySem PySem.Spec PyProof.Rows L2 Mi
theorem enum_at {l : List D} {i : Nat} {d : D} (h : (enumD l)[i]? = some d) : ∃ x, l[i]? = some x ∧ d = .tuple [.int (i : Nat), x] := by
  unfold enumD at h
  rw [List.getElem?_map, List.getElem?_zipIdx] at h
  cases e : l[i]? with
  | none => rw [e] at h; cases h
  | some x =>
    rw [e] at h
    cases h
    exact ⟨x, rfl, by simp⟩
theorem enum_len (l : List D) : (enumD l).length = l.length := by simp [enumD]
section
variable {C : Cv} {E : XK} {H : Hp} {α : Al} {μ : Sto}
theorem yields_enumL {M : Addr → Prop} {a : Addr} {xs : List V} {ds : List PyData} (hx : Rd H a (.lst xs)) (n : ¬ M a) (r : RpAll C.K H M xs ds) : Yields C (Ite C.K a) (enumD ds) H M := by
  intro i H2 M2 st _
  have h2 : SqL C.K H2 a xs := .inl (st.rd hx n).1
  have r2 := r.ext st
  refine ⟨fun d e => ?_, fun h => ⟨xs, h2, by rw [r2.length]; rw [enum_len] at h; exact h⟩⟩
  obtain ⟨x, e1, rfl⟩ := enum_at e
  obtain ⟨v, h3, h4⟩ := r2.get e1
  refine ⟨⟨xs, v, h2, h3⟩, fun z H' yy => ?_⟩
  obtain ⟨T, x', rfl, nT, rfl, g1⟩ := yy
  have e3 := g1 xs h2
  rw [h3] at e3; cases e3
  exact rp_newT nT (.cons (.int _) (.cons h4 .nil))
theorem yields_enumT {M : Addr → Prop} {a : Addr} {xs : List V} {ds : List PyData} (hx : SqT C.K H a xs) (r : RpAll C.K H M xs ds) : Yields C (EnY.IteT C.K a) (enumD ds) H M := by
  intro i H2 M2 st _
  have h2 : SqT C.K H2 a xs := st.sqT hx
  have r2 := r.ext st
  refine ⟨fun d e => ?_, fun h => ⟨xs, h2, by rw [r2.length]; rw [enum_len] at h; exact h⟩⟩
  obtain ⟨x, e1, rfl⟩ := enum_at e
  obtain ⟨v, h3, h4⟩ := r2.get e1
  refine ⟨⟨xs, v, h2, h3⟩, fun z H' yy => ?_⟩
  obtain ⟨T, x', rfl, nT, rfl, g1⟩ := yy
  have e3 := g1 xs h2
  rw [h3] at e3; cases e3
  exact rp_newT nT (.cons (.int _) (.cons h4 .nil))
end
section
variable {X : Cx} {T : List (Addr × Str)} {E : XK} {pos : Pos} {a : Expr} {f : EF}
theorem enum_rd {σ : L2.St} {H : Hp} {R' : It → Hp → Prop} (q : tI (CvX X T) E (iEnumD f) σ H R') : EnY.iEnumT X.K (tCons (tD (CvX X T) E f) tNil) σ H R' := by
  obtain ⟨ρ, α, μ, S, sl, q⟩ := q
  refine tD_bindI S sl q fun v w H1 α1 μ1 st1 S1 sl1 r1 q1 => ?_
  split at q1
  · rename_i l0 μ0 e0
    split at e0
    · rename_i l
      split at e0
      · rename_i hl
        cases e0
        cases r1 with
        | tup h1 rr1 => exact ⟨_, _, rfl, .inr ⟨h1, q1 _ H1 α1 (.refl _ _ _) S1 (by rw [enum_len]; exact Nat.le_trans hl (by decide)) (yields_enumT h1 rr1)⟩⟩
      · cases e0
    · rename_i l
      split at e0
      · rename_i hl
        cases e0
        cases r1 with
        | lst h1 n1 rr1 => exact ⟨_, _, rfl, .inl ⟨.inl h1, q1 _ H1 α1 (.refl _ _ _) S1 (by rw [enum_len]; exact Nat.le_trans hl (by decide)) (yields_enumL h1 n1 rr1)⟩⟩
      · cases e0
    · cases e0
  · rename_i x0 μ0 e0
    split at e0
    · split at e0 <;> cases e0
    · split at e0 <;> cases e0
    · cases e0
  · exact q1.elim
theorem di_enum {p tpos : Pos} {elts : List Expr} {kk : Nat} (ha : DE X T E a f) (hm : X.mg "enumerate" = none) (hg : Gl X "enumerate" := by rfl)
    (hs : starEach [a] X.env = [(false, eval a X.env)] := by rfl) :
    DI X T E (.Tuple elts kk tpos) (.Call (.Name "enumerate" p) [a] [] pos) (iEnumD f) :=
  pi_imp (EnY.pi_enumT hg hm (pa_cons ha pa_nil hs) hs) fun σ H R' q => enum_rd q
end
end L3

set_option Elab.async false
set_option linter.all false
set_option maxRecDepth 100000
set_option maxHeartbeats 4000000
/-! len(set(a list of truth values)). -/
namespace SetY
open PySem PySem.Spec PyProof.Rows L2 Mi
theorem cnt_step (bs : List Bool) (b : Bool) : cntB (bs ++ [b]) = if decide (b ∈ bs) = true then cntB bs else cntB bs + 1 := by
  unfold cntB
  cases b <;> by_cases h1 : true ∈ bs <;> by_cases h2 : false ∈ bs <;> simp [h1, h2]
theorem cnt_le (bs : List Bool) : cntB bs ≤ 2 := by
  unfold cntB
  split <;> split <;> omega
section
variable {prog : Program} {w : World} {A : Around} {R : Result → Shared → Prop} {I : Addr} {fp wr : List Addr} {G : Array GenState → Array GenState → Prop} {n : Nat} {P : Nat → Value → Prop} {St : Nat → Shared → Prop}
def SB (prog : Program) (w : World) (bs : List Bool) (h : Heap) (a : Addr) : Prop := h.SetOf (PpSet.boolK prog w) a (fun k => decide (k ∈ bs)) (cntB bs)
theorem SB.at {bs : List Bool} {h h' : Heap} {a : Addr} (x : SB prog w bs h a) (k : ∀ o, h.get? a = some o → h'.get? a = some o) : SB prog w bs h' a := by
  obtain ⟨o, es, ep, tb, ho, rest⟩ := x
  exact ⟨o, es, ep, tb, k o ho, rest⟩
theorem addLoop (W : WalksS prog w A.in1 I fp wr G n P St) (a : Addr) (hSf : a ∉ fp) (bs : List Bool) (hn : bs.length = n) (hval : ∀ i v, P i v → ∃ b, bs[i]? = some b ∧ v = .bool b) :
    ∀ (k i : Nat) (s : Shared), n - i = k → i ≤ n → St i s → SB prog w (bs.take i) s.heap a →
      (∀ s', Moved (a :: wr) G s s' → SB prog w bs s'.heap a → R (.ok (.ret .none)) s') → codeAny (model prog w) A (.builtin "set.update.loop" ⟨[.ref a, .ref I], []⟩) R s := by
  have hSw : a ∉ wr := fun h => hSf (W.sub _ h)
  have up : ∀ b ∈ wr, b ∈ a :: wr := fun b hb => List.mem_cons_of_mem _ hb
  intro k
  induction k with
  | zero =>
    intro i s hk hi hst hS hR
    obtain rfl : i = n := by omega
    refine codeAny_builtin F.entry_set_update_loop ?_
    rw [Around.under_plainId F.plain_set_update_loop _]
    show wpAny _ A.in1 (pyNext (.ref I) >>= _) _ _ s
    refine wpAny_bind (W.done s _ _ hst fun s' hm => ?_)
    show wpAny _ A.in1 (ret Value.none) _ _ s'
    rw [← hn, List.take_length] at hS
    exact wpAny_pure (hR s' (hm.mono up) (hS.at fun o e => hm.heap a _ hSw e))
  | succ k ih =>
    intro i s hk hi hst hS hR
    have hlt : i < n := by omega
    refine codeAny_builtin F.entry_set_update_loop ?_
    rw [Around.under_plainId F.plain_set_update_loop _]
    show wpAny _ A.in1 (pyNext (.ref I) >>= _) _ _ s
    refine wpAny_bind (W.item i s _ _ hlt hst fun v s' hP hst' hm => ?_)
    obtain ⟨b, hb, rfl⟩ := hval i v hP
    have hS' : SB prog w (bs.take i) s'.heap a := hS.at fun o e => hm.heap a _ hSw e
    have et : bs.take (i + 1) = bs.take i ++ [b] := by rw [List.take_add_one, hb]; rfl
    show wpAny _ A.in1 (holding [Value.bool b] (setAdd a (.bool b)) >>= _) _ _ s'
    refine wpAny_bind (wpAny_holding ?_)
    unfold setAdd
    refine wpAny_holding (wpAny_bind ((PpSet.boolK prog w).pyHash (k := b) (PpSet.boolK_is prog w b) ?_))
    refine wpAny_setAddHashed_of (knd := PpSet.boolK prog w) (s := { s' with toks := s'.toks + 1 }) (PpSet.boolK_is prog w b) rfl hS' (by have := cnt_le (bs.take i); unfold scanBound; omega) fun h' hsb hS2 => ?_
    have hSi : SB prog w (bs.take (i + 1)) h' a := by
      rw [et]
      refine SetOf_congr hS2 (fun c => ?_) (cnt_step (bs.take i) b).symm
      by_cases h1 : c ∈ bs.take i <;> by_cases h2 : c = b <;> simp [h1, h2]
    refine wpAny_pure ⟨plainId_quiet F.plain_set_update_loop _, ih (i + 1) _ (by omega) hlt (W.frame _ s' _ _ hst' (Nat.le_succ _) fun c hc o e => ?_) hSi fun s2 hm2 hS3 => ?_⟩
    · rw [hsb.2 c fun z => hSf (by rw [← z]; exact hc)]; exact e
    · refine hR s2 (Moved.trans W.gtrans ((hm.mono up).then_heap (Nat.le_succ _) fun c o hc e => ?_) hm2) hS3
      rw [hsb.2 c fun z => hc (by rw [z]; exact List.mem_cons_self)]; exact e
end
theorem bools_at : ∀ {bs : List Bool} {us : List Value}, Vals (bs.map V.bl) us → ∀ (i : Nat) (v : Value), us[i]? = some v → ∃ b, bs[i]? = some b ∧ v = .bool b
  | [], _, .nil, i, v, h => by simp at h
  | b :: bs, _, .cons r t, 0, v, h => by
    cases r
    simp only [List.getElem?_cons_zero, Option.some.injEq] at h
    exact ⟨b, rfl, h.symm⟩
  | b :: bs, _, .cons r t, i + 1, v, h => by
    simp only [List.getElem?_cons_succ] at h
    exact bools_at t i v h
section
variable {prog : Program} {w : World} {A : Around} {E : Value → Shared → Prop} {s : Shared}
/-- what the set's __init__ does with the list -/
theorem set_of {l : Addr} {items : Array Value} {bs : List Bool} {Q : Value → Shared → Prop} (hh : A.handled = none) (hl : s.heap.IsList l items) (hi : Vals (bs.map V.bl) items.toList)
    (h : ∀ (h' : Heap) (tk : Nat), SB prog w bs h' s.heap.objs.size → (∀ b o, b < s.heap.objs.size → s.heap.get? b = some o → h'.get? b = some o) → Q (.ref s.heap.objs.size) { s with heap := h', toks := tk }) :
    wpAny (model prog w) A (call (.type "set") [.ref l]) Q E s := by
  obtain ⟨c, tl, hmro⟩ := F.called_set.mro
  have hmade := F.called_set.made
  have hsub := F.called_set.sub
  refine wpAny_call (codeAny_of_tree ?_)
  show wpAny _ _ (callAny (.type "set") _) _ _ _
  refine wpAny_pure ⟨Code.quiet_builtin _ (by decide +kernel), codeAny_builtin F.entry_type_call ?_⟩
  rw [Around.under_plain (weight_type_call_type "set" [.ref l] []) rfl]
  have h1 := F.called_set.notType
  have h2 := F.called_set.canCreate
  have hct := F.typeCall_set_1 (.ref l)
  repeat (any_goals (first | assumption | wp_step))
  refine codeAny_mono (code_set_new_1 (.ref l) (E := E) (Q₁ := fun v s1 => ∃ led : Bool, v = .ref s.heap.objs.size ∧ s1 = { s with heap := s.heap.push { cls := .type "set", dict := none, data := .set #[] 0 (.fresh 0 0 led) } }) fun led => ⟨led, rfl, rfl⟩) fun r s1 hr => ?_
  cases r with
  | error e => exact hr
  | ok fl =>
    cases fl with
    | ret obj =>
      obtain ⟨led, rfl, rfl⟩ := hr
      have hS : (s.heap.push { cls := .type "set", dict := none, data := .set #[] 0 (.fresh 0 0 led) }).get? s.heap.objs.size = some { cls := .type "set", dict := none, data := .set #[] 0 (.fresh 0 0 led) } := Heap.get?_push_size _ rfl
      have hT : Shared.TypeIs { s with heap := s.heap.push { cls := .type "set", dict := none, data := .set #[] 0 (.fresh 0 0 led) } } (.ref s.heap.objs.size) "set" := ⟨_, hS, rfl⟩
      have hli := F.called_set.init.lookup
      have hbi := F.called_set.init.bind (.ref s.heap.objs.size)
      repeat (any_goals (first | assumption | wp_step))
      refine codeAny_mono (codeAny_call_builtin (R := wants (fun r s2 => r = .none ∧ ∃ h' tk, s2 = { s with heap := h', toks := tk } ∧ SB prog w bs h' s.heap.objs.size ∧
          (∀ b o, b < s.heap.objs.size → s.heap.get? b = some o → h'.get? b = some o)) E) F.called_set.init.plain F.entry_set_init (check_set_init_1 hT ?_)) fun r2 s2 hr2 => ?_
      · obtain ⟨⟨ocls, odict, odata, oslots⟩, hol, hcl, nl, hdl⟩ := hl
        simp only at hcl hdl
        subst hcl; subst hdl
        have hol' : (s.heap.push { cls := .type "set", dict := none, data := .set #[] 0 (.fresh 0 0 led) }).get? l = some { cls := .type "list", dict := odict, data := .seq items nl, slots := oslots } := Heap.get?_push_of_some _ hol
        have hsls := F.sub_list_set
        have hslf := F.sub_list_frozenset
        have hne : (Value.type "list" == Value.type "dict") = false := by decide
        have hl1 : (s.heap.push { cls := .type "set", dict := none, data := .set #[] 0 (.fresh 0 0 led) }).IsList l items := ⟨_, hol', rfl, nl, rfl⟩
        unfold Builtin.«set.__init__» noKeywords Builtin.Frozenset.updateFrom
        generalize hPI : pyIter = PI
        wp_walk
        subst hPI
        refine wpAny_pyIter_list hl1 (wpAny_bind (wpAny_runValue ?_))
        have hlS : l < s.heap.objs.size := Heap.lt_size hol
        have ez : (s.heap.push { cls := .type "set", dict := none, data := .set #[] 0 (.fresh 0 0 led) }).objs.size = s.heap.objs.size + 1 := Heap.size_push ..
        have hneI : l ≠ (s.heap.push { cls := .type "set", dict := none, data := .set #[] 0 (.fresh 0 0 led) }).objs.size := by rw [ez]; exact Nat.ne_of_lt (Nat.lt_succ_of_lt hlS)
        refine addLoop ((Walks.list (by simp [hh]) _ l hneI items).toS) s.heap.objs.size (by rw [ez]; simp only [List.mem_cons, List.not_mem_nil, or_false, not_or]; exact ⟨Nat.ne_of_lt (Nat.lt_succ_self _), Nat.ne_of_gt hlS⟩) bs (by have := hi.length; simpa using this)
          (fun i v hv => bools_at hi i v (by rw [Array.getElem?_toList]; exact hv)) (items.size - 0) 0 _ (by omega) (Nat.zero_le _) ⟨⟨_, Heap.get?_push_size _ rfl, rfl, rfl⟩, (hl1.push _)⟩ ?_ fun s' hm hS' => ?_
        · exact SetOf_congr ((setObjOf_fresh (knd := PpSet.boolK prog w) led).setOf (Heap.get?_push_of_some _ hS) (by unfold scanBound; omega)) (fun _ => rfl) rfl
        · obtain ⟨h', g', d', tk', os'⟩ := s'
          obtain rfl : g' = s.gens := hm.gens
          obtain rfl : d' = s.drawn := hm.drawn
          obtain rfl : os' = s.os := hm.os
          show wpAny _ _ _ _ _ _
          refine wpAny_pure ?_
          show wpAny _ _ (ret Value.none) _ _ _
          refine wpAny_pure ⟨rfl, h', tk', rfl, hS', fun b o hb e => hm.heap b o ?_ (Heap.get?_push_of_some _ (Heap.get?_push_of_some _ e))⟩
          rw [ez]
          simp only [List.mem_cons, List.not_mem_nil, or_false, not_or]
          exact ⟨Nat.ne_of_lt hb, Nat.ne_of_lt (Nat.lt_succ_of_lt hb)⟩
      · cases r2 with
        | error e => exact hr2
        | ok fl2 =>
          cases fl2 with
          | ret r =>
            obtain ⟨rfl, h', tk, rfl, hS', hk'⟩ := hr2
            repeat (any_goals (first | assumption | wp_step))
            exact h _ _ hS' hk'
          | _ => exact hr2.elim
    | _ => exact hr.elim
end
def tLenSetB (K : PySem.W.Frag) (ta : TE) : TE := fun σ H Q => ta σ H fun x H1 => ∃ (l : Addr) (bs : List Bool), x = .ref l ∧ SqL K H1 l (bs.map V.bl) ∧ Q (.int (cntB bs : Nat)) H1
theorem pe_lenSetB {X : Cx} {a : Expr} {ta : TE} {p p2 q pos : Pos} (hc : X.calm = true) (hg : Gl X "len") (hm : X.mg "len" = none) (hg2 : Gl X "set") (hm2 : X.mg "set" = none) (ha : PE X a ta)
    (na : starEach [a] X.env = (false, eval a X.env) :: starEach [] X.env := by rfl) : PE X (.Call (.Name "len" p) [.Call (.Name "set" p2) [a] [] q] [] pos) (tLenSetB X.K ta) := by
  refine ⟨fun pins s σ H Q I h => ?_⟩
  refine Call_ (ld_blt I hg hm PySem.boot_len ?_)
  refine PyProof.Rows.callWith_builtin1 (PyProof.Rows.args_cons ?_ rfl) rfl rfl
  refine Call_ (ld_blt I hg2 hm2 PyProof.Rows.boot_set ?_)
  refine PyProof.Rows.callWith_type1 (PyProof.Rows.args_cons (thn (ha.run pins s σ H _ I h) fun v s1 ⟨x, H1, I1, r1, q1⟩ => PyProof.Rows.args_nil ?_) na) na rfl
  obtain ⟨l, bs, rfl, hq, q1⟩ := q1
  cases r1
  obtain ⟨its, r, pl, hz⟩ := I1.list hq
  refine set_of (I1.ok.hd hc) pl.isList (by simpa using r) fun h' tk hS hk => ?_
  refine PyProof.Rows.args_nil ?_
  obtain ⟨o, es, ep, t, ho, hex, hd, _, _, _, hf, hn⟩ := hS
  have I2 : Inv X pins σ H1 { s1 with heap := h', toks := tk } := I1.kept fun b o e => hk b o (Heap.lt_size e) e
  have hle := cnt_le bs
  exact call_len_set ho hex hd hf (by rw [hn]; omega) ⟨.int (cntB bs : Nat), H1, I2.tok _, ⟨_, by rw [hn]⟩, q1⟩
end SetY
namespace L3
open PySem PySem.Spec PyProof.Rows L2 Mi
theorem RpAll.bls {K : PySem.W.Frag} {H : Hp} {M : Addr → Prop} : ∀ {vs : List V} {ds : List D} {ys : List Bool}, RpAll K H M vs ds → boolsL ds = some ys → vs = ys.map V.bl
  | _, _, _, .nil, e => by cases e; rfl
  | _, .bool b :: ds, ys, .cons r t, e => by
    unfold boolsL at e
    cases e1 : boolsL ds with
    | none => rw [e1] at e; cases e
    | some k' =>
      rw [e1] at e
      cases e
      cases r
      rw [RpAll.bls t e1]
      rfl
  | _, .none :: ds, _, .cons r t, e => by cases e
  | _, .str _ :: ds, _, .cons r t, e => by cases e
  | _, .int _ :: ds, _, .cons r t, e => by cases e
  | _, .list _ :: ds, _, .cons r t, e => by cases e
  | _, .tuple _ :: ds, _, .cons r t, e => by cases e
  | _, .dict _ :: ds, _, .cons r t, e => by cases e
theorem de_lenSet {X : Cx} {T : List (Addr × Str)} {E : XK} {j : Nat} {a : Expr} {f : EF} {p p2 q pos : Pos} (ck : CK X E j) (ha : DE X T E a f) (hm : X.mg "len" = none) (hm2 : X.mg "set" = none) (hg : Gl X "len" := by rfl) (hg2 : Gl X "set" := by rfl)
    (na : starEach [a] X.env = (false, eval a X.env) :: starEach [] X.env := by rfl) : DE X T E (.Call (.Name "len" p) [.Call (.Name "set" p2) [a] [] q] [] pos) (eLenSet f) :=
  pe_imp (SetY.pe_lenSetB ck.calm hg hm hg2 hm2 ha na) fun σ H Q ⟨ρ, α, μ, S, sl, q⟩ => tD_bind S sl q fun v w H1 α1 μ1 st1 S1 sl1 rv q1 => by
    split at q1
    · rename_i l
      split at q1
      · rename_i bs e
        split at q1
        · cases rv with
          | lst h1 n1 rr1 =>
            have hv := rr1.bls e
            subst hv
            exact ⟨_, bs, rfl, .inl h1, q1 _ H1 α1 (.refl _ _ _) S1 (.int _)⟩
        · exact (show False from q1).elim
      · exact (show False from q1).elim
    · exact (show False from q1).elim
end L3

set_option Elab.async false
set_option linter.all false
set_option maxRecDepth 100000
set_option maxHeartbeats 2000000
/-! The def that tells an error's names, called within an except suite; the def that tries a lambda. -/
namespace L3
open PySem PySem.Spec PyProof.Rows L2 Mi
/-! ### a call while an error is handled -/
theorem run_ofSH {CX : CXT} {P : Program} {w : World} {K : PySem.W.Frag} {mg : Str → Option Value} {base : Heap} {k : Nat} {f : Addr} {name qual : Str} {params : Arguments} {body : List Stmt} {scope : Scope} {dV kV doc pm cdv ct oc : Value} {an od : Option Addr}
    {osl : Array (Option Value)} {N ps : List Str} (lk : K.lookup f = some ⟨oc, od, .func (PySem.W.fnOf name qual params body scope dV kV doc pm an cdv ct), osl⟩) (hcd : PySem.W.codeIn K cdv qual = true) (S : FnScope N ps scope)
    {A : Around} {outer : List PySem.Env} {s : Shared} {H : Hp} {args : Args} {us : List Value} {vs : List V} {Q : VK} {E : XK} {p : Addr × Obj} (hr : L2H.RoomH (k + 1) A) (hpin : L2H.PinOk outer H s p) (e0 : Env0 P w K mg base A outer s H)
    (hb : BindsTo s (PySem.W.fnOf name qual params body scope dV kV doc pm an cdv ct) args (ps.zip us)) (r : Vals vs us) (hl : vs.length = ps.length)
    (hbody : L2H.RoomH k (A.deeper (envOfC qual scope s.heap.objs.size f cdv)) → ∃ t, PSs (L2H.cxH CX P w K mg base N qual scope f cdv A outer s H E p) body t ∧ t { nx := fun _ H' => Q .non H', rt := Q } (L2.start N vs) H) :
    codeAny (model P w) A (.call (.ref f) args) (CR CX outer P w H s Q E) s := by
  have KX : K.In s.heap := e0.mod.kin.keeps fun b o e => (e0.bs b o e).1
  have lim : s.heap.NoLimit := e0.mod.nolimit.keeps fun b o e => (e0.bs b o e).1
  have hkind : ∀ y ∈ ps.zip us, scope.names.lookup y.1 = some .local ∨ (scope.names.lookup y.1 = some .cell ∧ ((cellsFrom (s.heap.objs.size + 1) scope.names []).lookup y.1).isSome = true) := fun ⟨n, v⟩ hy => by
    rcases S.par n (List.of_mem_zip hy).1 with q | q
    · exact .inl q
    · exact .inr ⟨q, PySem.W.cellsFrom_some _ _ _ (.inl q)⟩
  refine codeAny_call_function hr.depth (KX _ _ lk) rfl S.co S.gen rfl (PySem.W.codeRec_of KX hcd) (hb _ _ _ _ ?_)
  refine wpAny_newFunctionEnv_cells S.kind hkind fun env he s1 x => ?_
  subst he
  refine ⟨lim.keeps x.toInCall.keep, codeAny_func ?_⟩
  obtain ⟨t, ht, hq⟩ := hbody (hr.deeper _)
  have I : Inv (L2H.cxH CX P w K mg base N qual scope f cdv A outer s H E p) [] (L2.start N vs) H s1 := L2H.inv_startH S hpin e0 hl r x
  refine wpAny_mono (ht.run [] s1 (L2.start N vs) H _ I hq) (fun fl s' hs => ?_) fun e s' hs => hs
  have fin : ∀ {σ' : L2.St} {H' : Hp} {v : V} {u : Value}, Inv (L2H.cxH CX P w K mg base N qual scope f cdv A outer s H E p) [] σ' H' s' → RelV v u → Q v H' → CE outer P w H s Q u s' :=
    fun {σ' H' v u} J rv q => ⟨v, H', J.os, J.bare, J.base, J.hok, rv, q⟩
  cases fl with
  | ret u =>
    obtain ⟨v, σ', H', J, rv, q⟩ := hs
    exact fin J rv q
  | next =>
    obtain ⟨σ', H', J, q⟩ := hs
    exact fin (v := V.non) (u := Value.none) J rfl q
  | brk =>
    obtain ⟨_, _, _, q⟩ := hs
    exact False.elim q
  | cont =>
    obtain ⟨_, _, _, q⟩ := hs
    exact False.elim q
/-- the def x tells the names of an error of a class that row knows -/
structure HasNm (P : Program) (w : World) (K : PySem.W.Frag) (mg : Str → Option Value) (base : Heap) (T : List (Addr × Str)) (k : Nat) (x : Str) (row : Addr → Str → Prop) : Prop where
  ex : ∃ f fd n0, mg x = some (.ref f) ∧ PySem.W.keepIn K (.ref f) = true ∧ Binds K fd [n0] [] ∧
    ∀ (A : Around) (outer : List PySem.Env) (s : Shared) (H : Hp) (args : Args) (a0 D : Addr) (oe : Obj) (nm : Str) (Q : VK) (E : XK) (α : Al) (μ : Sto), L2H.RoomH k A → L2H.Hot1 A (a0, oe) → L2H.PinOk outer H s (a0, oe) → Zc (.ref D) none oe → row D nm →
      Env0 P w K mg base A outer s H → BindsTo s fd args ([n0].zip [.ref a0]) → Stor ⟨K, mg, T⟩ H α μ → PQ ⟨K, mg, T⟩ E Q H α μ (.ok (.d (.str nm)) μ) → codeAny (model P w) A (.call (.ref f) args) (CR (L2N.CX P w) outer P w H s Q E) s
section
variable {P : Program} {w : World} {K : PySem.W.Frag} {mg : Str → Option Value} {base : Heap} {T : List (Addr × Str)}
theorem nm_ok {x n0 : Str} {st : Stmt} {N : List Str} {k : Nat} {row : Addr → Str → Prop} (d : DefFact K mg x st [n0]) (S : FnScope N [n0] (defScope st))
    (hbody : ∀ (f : Addr) (cdv : Value) (A : Around) (outer : List PySem.Env) (s : Shared) (H : Hp) (E : XK) (a0 D : Addr) (oe : Obj) (nm : Str), L2H.Hot1 A (a0, oe) → Zc (.ref D) none oe → row D nm → A.units + 64 + 3 < cLine →
      ∃ F : SF, DSs (L2H.cxH (L2N.CX P w) P w K mg base N x (defScope st) f cdv A outer s H E (a0, oe)) T E (defBody st) F ∧ ∀ μ, F (startE N.length [.x a0]) μ = .rt (.d (.str nm)) μ) : HasNm P w K mg base T (k + 1) x row := by
  obtain ⟨f, fd, dvs, kws, Fu, hm, hb⟩ := d.ex
  obtain ⟨oc, od, dV, kV, doc, pm, an, cdv, ct, osl, rfl, lk, hcd, _, _⟩ := Fu.ex
  refine ⟨f, _, n0, hm, Fu.kp, hb, fun A outer s H args a0 D oe nm Q E α μ hr hot hpin hz hrow e0 hbn S0 q => ?_⟩
  refine run_ofSH (N := N) (ps := [n0]) (us := [.ref a0]) (vs := [.ref a0]) (p := (a0, oe)) lk hcd S hr hpin e0 hbn (.cons rfl .nil) rfl fun hr2 => ?_
  have hu : A.units + 64 + 3 < cLine := by have := hr.un; omega
  obtain ⟨F, hF, e⟩ := hbody f cdv A outer s H E a0 D oe nm hot hz hrow hu
  refine ⟨_, hF, startE N.length [.x a0], α, μ, S0, ⟨?_, ?_⟩, ?_⟩
  · simp only [startE, L2.start, List.length_append, List.length_map, List.length_replicate, List.length_cons, List.length_nil]
  · exact Sl.start (vs := [.ref a0]) (ws := [.x a0]) (.cons rfl .nil) _
  · rw [e]
    exact q
end
section
variable {X : Cx} {T : List (Addr × Str)} {E : XK} {k i : Nat} {pos : Pos}
theorem pe_nm {x n : Str} {row : Addr → Str → Prop} {q1 q2 : Pos} (h : HasNm X.prog X.w X.K X.mg X.base T k x row) (hr : L2H.RoomH k X.A) {a0 D : Addr} {oe : Obj} {nm : Str} (hot : L2H.Hot1 X.A (a0, oe)) (hp : (a0, oe) ∈ X.pn) (hz : Zc (.ref D) none oe) (hrow : row D nm)
    (hN : X.N[i]? = some n) (hv : Vis X.env.scope n) (hg : Gl X x := by rfl) (hdb : (x == ("__debug__" : Str)) = false := by decide) (hd : (n == ("__debug__" : Str)) = false := by decide) (hcd : (n == ("__classdict__" : Str)) = false := by decide)
    (he : starEach [.Name n q2] X.env = (false, eval (.Name n q2) X.env) :: starEach [] X.env := by rfl) (hpl : (backTo pos (starEach [] X.env)).any (·.1) = false := by rfl) :
    PE X (.Call (.Name x q1) [.Name n q2] [] pos) (fun σ H Q => σ[i]? = some (some (.ref a0)) ∧ ∃ α μ, Stor (CvX X T) H α μ ∧ PQ (CvX X T) E0 Q H α μ (.ok (.d (.str nm)) μ)) := by
  refine ⟨fun pins s σ H Q I hh => ?_⟩
  obtain ⟨hs, α, μ, S, q⟩ := hh
  obtain ⟨f, fd, n0, hm, hk, hb, run⟩ := h.ex
  refine wpAny_Call_Name_kw (ld_glob I hg hm ?_ hdb)
  refine PySem.W.callWith_K (h₀ := X.base) I.ok.mod.kin hk (thn ((pa_cons (pe_var (pos := q2) hN hv hd hcd) pa_nil he).run pos pins s σ H (fun vs H1 => vs = [.ref a0] ∧ H1 = H) I ⟨_, hs, rfl, rfl⟩) fun us s1 ⟨vs, H1, I1, r, e1, e2⟩ => ⟨I1.kIn, ?_⟩) he hpl
  subst e1 e2
  cases r with
  | cons r1 rr =>
    cases rr
    cases r1
    have P1 := I1.pin (a0, oe) (List.mem_append_left _ hp)
    have hpin : L2H.PinOk X.stack H1 s1 (a0, oe) := ⟨P1.1, P1.2.1, fun hm => (List.mem_cons.mp (I1.stkSub a0 hm)).elim P1.2.2.1 P1.2.2.2.1, P1.2.2.2.2⟩
    have b := hb s1 [.ref a0] I1.kIn rfl
    refine wpAny_call (codeAny_mono (run X.A X.stack s1 H1 ⟨[.ref a0], []⟩ a0 D oe nm Q E0 α μ hr hot hpin hz hrow I1.env0 b S q) fun r s' hq => ?_)
    cases r with
    | error e =>
      obtain ⟨_, _, _, _, _, _, _, _, _, _, _, _, z⟩ := hq
      exact z.elim
    | ok fl =>
      cases fl with
      | ret u => exact I1.after hq
      | next => exact False.elim hq
      | brk => exact False.elim hq
      | cont => exact False.elim hq
end
/-! ### lambdas -/
/-- where the lambdas of the block are kept -/
def LamAt (X : Cx) (T : List (Addr × Str)) : Prop := ∃ c P, X.env.code = .ref c ∧ LamX.TabB X.base X.mg c P ∧ (P, X.env.qual ++ "<lambda>") ∈ T ∧ ∀ p ∈ T, p.1 = P → p.2 = X.env.qual ++ "<lambda>"
theorem extN_step {C : Cv} {H H1 : Hp} {α : Al} {μ : Sto} (S : Stor C H α μ) (e : LamX.ExtN H H1) (t : LamX.Tabs C.T H1) : Step H α μ H1 α μ ∧ Stor C H1 α μ := by
  have ex : Ext H (Own α μ) H1 (Own α μ) := ⟨fun b o h n t => ⟨e b o h t, n⟩, fun b xs h => e b _ h (fun _ z => by cases z), fun b o u h => e b _ h (fun _ z => by cases z)⟩
  refine ⟨⟨ex, fun _ _ h => h, rfl, fun b hb => ?_⟩, ⟨S.len, S.nd, fun a h => ?_, fun k c h => ?_, t⟩⟩
  · obtain ⟨o, q, n⟩ := S.there b (List.mem_append_right _ hb)
    rw [q]
    exact e b o q n
  · obtain ⟨o, q, n⟩ := S.there a h
    exact ⟨o, e a o q n, n⟩
  · obtain ⟨a, h1, h2⟩ := S.cell k c h
    refine ⟨a, h1, ?_⟩
    cases c with
    | lst l => obtain ⟨ys, e1, e2⟩ := h2; exact ⟨ys, e _ _ e1 (fun _ z => by cases z), e2.ext ex⟩
    | ins c fs => obtain ⟨A, dx, gs, e1, e2, e3, e4⟩ := h2; exact ⟨A, dx, gs, e1, e _ _ e2 (fun _ z => by cases z), e3, e4.ext ex⟩
abbrev lamCxN (X : Cx) (A : Around) (outer : List PySem.Env) (s : Shared) (H : Hp) (E : XK) (scope : Scope) (f c' : Addr) : Cx :=
  (LamX.lamCx X A outer s H E scope f c').tr [] (fun e s' => wpAny (model X.prog X.w) (A.deeper (LamX.lamEnv X scope s.heap.objs.size f c')) (leaving (LamX.lamEnv X scope s.heap.objs.size f c') e) (fun _ s'' => L2N.CX X.prog X.w outer H s E e s'') (fun e' s'' => L2N.CX X.prog X.w outer H s E e' s'') s')
section
variable {X : Cx} {pins : List (Addr × Obj)} {σ : L2.St} {H HZ : Hp} {s s1 : Shared}
/-- x(), in the def that got the lambda -/
theorem pe_actN {Eg : XK} {Ng : List Str} {qg : Str} {sg : Scope} {g f c' : Addr} {cdg pm ctv : Value} {params : Arguments} {body : Expr} {scope : Scope} {k i : Nat} {a : Str} {pn : List (Addr × Obj)} {xe : Value → Shared → Prop} {W : WX} {tb : XK → TE} {p1 p2 : Pos}
    (I : Inv X pins σ H s) (L : LamX.LamS X.env.scope scope) (hf : s.heap.get? f = some (PySem.W.kla_obj "<lambda>" (X.env.qual ++ "<lambda>") params body scope (cloFrom X.env.cells scope.names []) pm c' ctv)) (hfn : H f = none) (hfr : f ∉ frs X.stack)
    (hbind : bindArgs (PySem.W.kla_fn "<lambda>" (X.env.qual ++ "<lambda>") params body scope (cloFrom X.env.cells scope.names []) pm (.ref c') ctv) ⟨[], []⟩ = pure [])
    (tk : L2N.Takes ((cxOf (L2N.CX X.prog X.w) X.prog X.w X.K X.mg X.base Ng qg sg g cdg X.A X.stack s H Eg).tr pn xe) W) (hr : Room (k + 1) (X.A.deeper (envOfC qg sg s.heap.objs.size g cdg)))
    (hbody : ∀ (A : Around) (outer : List PySem.Env) (s : Shared) (H : Hp) (E : XK), Room k (A.deeper (LamX.lamEnv X scope s.heap.objs.size f c')) → PE (lamCxN X A outer s H E scope f c') body (tb E))
    (hN : Ng[i]? = some a) (hv : Vis sg a) (hd : (a == ("__debug__" : Str)) = false := by decide) (hcd : (a == ("__classdict__" : Str)) = false := by decide) :
    PE ((cxOf (L2N.CX X.prog X.w) X.prog X.w X.K X.mg X.base Ng qg sg g cdg X.A X.stack s H Eg).tr pn xe) (.Call (.Name a p1) [] [] p2)
      (fun σZ HZ Q => σZ[i]? = some (some (.ref f)) ∧ HZ c' = some (LamX.CodeO c' (X.env.qual ++ "<lambda>")) ∧ tb (WE W σZ) σ HZ Q) := by
  refine ⟨fun pinsZ sZ σZ HZ Q IZ h => ?_⟩
  obtain ⟨hs, hc, ht⟩ := h
  refine wpAny_Call_Name_kw (thn ((pe_var (pos := p1) (i := i) hN hv hd hcd).run pinsZ sZ σZ HZ (fun v H1 => v = .ref f ∧ H1 = HZ) IZ ⟨.ref f, hs, rfl, rfl⟩) fun u s1 ⟨v, H1, I1, r1, q1⟩ => ?_)
  obtain ⟨ev, eH⟩ := q1
  subst ev
  rw [eH] at I1
  obtain rfl : u = Value.ref f := r1
  have of1 : s1.heap.get? f = some (PySem.W.kla_obj "<lambda>" (X.env.qual ++ "<lambda>") params body scope (cloFrom X.env.cells scope.names []) pm c' ctv) := I1.base.keep f _ hf hfn hfr (fun z => nomatch (show f ∈ ([] : List Addr) from z))
  refine PySem.W.callWith_F0 ⟨_, _, _, _, of1⟩ ?_
  have un : Un (frs X.stack) [] H HZ s.heap s1.heap := I1.base
  obtain ⟨⟨oc, vs, t, hoc, hdc, hvc⟩, _, _⟩ := I1.hok c' _ hc
  have rc : codeAny (model X.prog X.w) (X.A.deeper (envOfC qg sg s.heap.objs.size g cdg)) (.call (.ref f) ⟨[], []⟩) (CR (L2N.CX X.prog X.w) (envOfC qg sg s.heap.objs.size g cdg :: X.stack) X.prog X.w HZ s1 Q (WE W σZ)) s1 := by
    refine PySem.W.kla_callFunE hr.depth of1 rfl L.co L.gen rfl ⟨c', oc, vs, t, rfl, hoc, hdc, hvc⟩ ?_
    rw [hbind]
    refine wpAny_pure (wpAny_newFunctionEnv (fun y hy => (L.own y hy).2) (fun y hy => absurd hy (by simp)) (fun h₁ hns hsb => ⟨I1.nolimit.fresh _ hsb, ?_⟩) L.kind)
    show codeAny _ _ (.expr body (LamX.lamEnv X scope s1.heap.objs.size f c')) _ _
    have kp : ∀ b o, s1.heap.get? b = some o → h₁.get? b = some o := fun b o e => hsb.extBut b o (Nat.ne_of_lt (Heap.lt_size e)) (Heap.get?_push_of_some _ e)
    have J0 : Inv (LamX.lamCx X (X.A.deeper (envOfC qg sg s.heap.objs.size g cdg)) (envOfC qg sg s.heap.objs.size g cdg :: X.stack) s1 HZ (WE W σZ) scope f c') [] σ HZ { s1 with heap := h₁, toks := s1.toks + ([] : List (Str × Value)).length } :=
      LamX.lam_start2 I L I1.env0 hr.hd un hns kp
    have J := J0.toTry (fun e s' => wpAny (model X.prog X.w) ((X.A.deeper (envOfC qg sg s.heap.objs.size g cdg)).deeper (LamX.lamEnv X scope s1.heap.objs.size f c')) (leaving (LamX.lamEnv X scope s1.heap.objs.size f c') e) (fun _ s'' => L2N.CX X.prog X.w (envOfC qg sg s.heap.objs.size g cdg :: X.stack) HZ s1 (WE W σZ) e s'') (fun e' s'' => L2N.CX X.prog X.w (envOfC qg sg s.heap.objs.size g cdg :: X.stack) HZ s1 (WE W σZ) e' s'') s')
    refine PySem.W.kla_codeExpr (wpAny_mono ((hbody _ _ s1 HZ (WE W σZ) (hr.deeper _)).run [] _ _ HZ Q J ht) (fun v s' hq => ?_) fun e s' hq => hq)
    obtain ⟨w', H', J', rv, q⟩ := hq
    exact ⟨w', H', J'.os, J'.bare, J'.base, J'.hok, rv, q⟩
  have hx := L2N.passAt tk σZ
  refine wpAny_call (codeAny_mono rc fun r s' hq => ?_)
  cases r with
  | error e => exact hx pinsZ HZ s1 e s' I1 hq
  | ok fl =>
    cases fl with
    | ret u => exact I1.after hq
    | next => exact False.elim hq
    | brk => exact False.elim hq
    | cont => exact False.elim hq
end
/-- the def that tries what it gets, and tells the error's names -/
structure HasTry (P : Program) (w : World) (K : PySem.W.Frag) (mg : Str → Option Value) (base : Heap) (T : List (Addr × Str)) (k : Nat) (x : Str) (nm : Exn → Option Str) : Prop where
  ex : ∃ (st : Stmt) (row : Addr → Str → Prop) (CS : Addr), DefFact K mg x st ["call"] ∧ FnScope ["call", "e"] ["call"] (defScope st) ∧
    (∃ (j : Nat) (p1 p2 p3 p4 p5 p6 p7 p8 p9 p10 p11 p12 : Pos), defBody st = [.Try [.Expr (.Call (.Name "call" p1) [] [] p2) p3] [.ExceptHandler (some (.Name "WalkError" p4)) (some "e") [.Return (some (.Call (.Name "_law_names" p5) [.Name "e" p6] [] p7)) p8] p9] [] [] p10, .Return (some (.Constant (.str "") j p11)) p12]) ∧
    (defScope st).names.lookup ("WalkError" : Str) = some .globalImplicit ∧ (defScope st).names.lookup ("_law_names" : Str) = some .globalImplicit ∧ (defScope st).names.lookup ("e" : Str) = some .local ∧ (defScope st).names.lookup ("call" : Str) = some .local ∧
    HasNm P w K mg base T k "_law_names" row ∧ mg "WalkError" = some (.ref CS) ∧
    ∀ x s, nm x = some s → x.arg = none ∧ ∃ D, mg x.cls = some (.ref D) ∧ PySem.W.exmOne K (.ref D) (.ref CS) = some true ∧ row D s
theorem PQ.cut {C : Cv} {E : XK} {Q : VK} {H : Hp} {α : Al} {μ μ1 : Sto} {o : Option W} (h : PQ C E Q H α μ (Mi.ofO o μ1)) : ∃ w, o = some w ∧ PQ C E Q H α μ (.ok w μ1) := by
  cases o with
  | none => exact (show False from h).elim
  | some w => exact ⟨w, rfl, h⟩
theorem noTakes {X : Cx} : L2N.Takes X (fun _ _ _ _ => False) := fun _ _ x => by
  obtain ⟨_, _, _, _, _, _, _, _, _, _, _, _, _, _, _, _, z⟩ := x
  exact z.elim
section
variable {X : Cx} {T : List (Addr × Str)} {E : XK} {j k kn : Nat} {pos : Pos}
theorem de_try {x : Str} {nm : Exn → Option Str} {f : EF} {params : Arguments} {body : Expr} {scope : Scope} {p lpos : Pos} (hT : HasTry X.prog X.w X.K X.mg X.base T kn x nm) (la : LamAt X T) (ck : CK X E j) (hbody : ∀ (A : Around) (outer : List PySem.Env) (s : Shared) (H : Hp) (E : XK) (g c' : Addr), CK (lamCxN X A outer s H E scope g c') E k → DE (lamCxN X A outer s H E scope g c') T E body f)
    (hk : k + 2 ≤ j := by decide) (hkn : kn ≤ k := by decide) (L : LamX.LamS X.env.scope scope := by exact LamX.lamS_by (by kernel_rfl)) (hdef : defaultsOf params X.env = ([], []) := by rfl)
    (hbind : ∀ (q : Str) (cl : List (Str × Addr)) (pm cv ctv : Value), bindArgs (PySem.W.kla_fn "<lambda>" q params body scope cl pm cv ctv) ⟨[], []⟩ = pure [] := by intros; rfl) (hg : Gl X x := by rfl) (hdb : (x == ("__debug__" : Str)) = false := by decide) :
    DE X T E (.Call (.Name x p) [.Lambda params body scope lpos] [] pos) (eTry nm f) := by
  refine ⟨fun pins s σ H Q I ⟨ρ, α, μ, S, sl, q⟩ => ?_⟩
  obtain ⟨st, row, CS, df, Sg, ⟨jj, p1, p2, p3, p4, p5, p6, p7, p8, p9, p10, p11, p12, hB⟩, gW, gN, gE, gC, hn, hW, hnm⟩ := hT.ex
  obtain ⟨g, fd, dvs, kws, Fu, hm, hb⟩ := df.ex
  obtain ⟨oc, od, dV, kV, doc, pm, an, cdv, ct, osl, rfl, lk, hcd, _, _⟩ := Fu.ex
  obtain ⟨c, P, hcode, TB, hmT, hu⟩ := la
  have hr : Room (k + 2) X.A := ck.room.mono hk
  refine wpAny_Call_Name_kw (ld_glob I hg hm ?_ hdb)
  refine PySem.W.callWith_K (h₀ := X.base) I.ok.mod.kin Fu.kp ?_ (by rfl) (by rfl)
  show wpAny _ _ (spliced ((false, eval (.Lambda params body scope lpos) X.env) :: backTo pos (starEach [] X.env))) _ _ s
  refine Calls.spliced_cons (LamX.lam_make2 I TB hcode hmT hu S.tabs hdef (L.has I.ok) fun f' c' pm' ctv H1 s' I1 eN T1 hf hfn hfr hco => ?_)
  refine Calls.spliced_nil ⟨I1.kIn, ?_⟩
  obtain ⟨st1, S1⟩ := extN_step S eN T1
  have sl1 := sl.step st1
  have q1 := PQ.step q st1
  have rc : codeAny (model X.prog X.w) X.A (.call (.ref g) ⟨[.ref f'], []⟩) (CR (L2N.CX X.prog X.w) X.stack X.prog X.w H1 s' Q E0) s' := by
    refine LamX.run_ofS (N := ["call", "e"]) (ps := ["call"]) (us := [.ref f']) (vs := [.ref f']) lk hcd Sg hr I1.env0 (hb s' [.ref f'] I1.kIn rfl) (.cons rfl .nil) rfl fun hr' => ?_
    rw [hB]
    have hB2 : ∀ (A : Around) (outer : List PySem.Env) (s2 : Shared) (H2 : Hp) (E2 : XK), Room k (A.deeper (LamX.lamEnv X scope s2.heap.objs.size f' c')) → PE (lamCxN X A outer s2 H2 E2 scope f' c') body (tD (CvX X T) E2 f) := fun A outer s2 H2 E2 hr2 =>
      hbody A outer s2 H2 E2 f' c' ⟨rfl, ck.nd, hr2, L2N.takes_of rfl rfl rfl rfl⟩
    refine ⟨_, pss_cons (L2N.ps_try_as (X := cxOf (L2N.CX X.prog X.w) X.prog X.w X.K X.mg X.base ["call", "e"] x (defScope st) g cdv X.A X.stack s' H1 E0) (i := 1) (c := .ref CS)
      (tb := fun W => tDrop (fun σZ HZ Q => σZ[0]? = some (some (.ref f')) ∧ HZ c' = some (LamX.CodeO c' (X.env.qual ++ "<lambda>")) ∧ tD (CvX X T) (WE W σZ) f σ HZ Q))
      (ts := fun a cls d D σ H => ∃ D0 nm, cls = .ref D0 ∧ d = none ∧ row D0 nm ∧ σ[1]? = some (some (.ref a)) ∧ ∃ α μ, Stor (CvX X T) H α μ ∧ PQ (CvX X T) E0 D.rt H α μ (.ok (.d (.str nm)) μ))
      (Wout := fun _ _ _ _ => False) rfl rfl Sg.nd rfl gE ⟨gW, by decide, .inl hW⟩ noTakes (fun W pn xe tk _ => pss_one (ps_expr (pe_actN I1 L hf hfn hfr (hbind _ _ _ _ _) tk hr' hB2 rfl (.inl gC)) rfl)) fun a oe cls d pn hz hfl => ?_) (pss_one (ps_ret pe_str)), ?_⟩
    · refine ⟨fun pins2 s2 σ2 H2 D2 I2 h2 => ?_⟩
      obtain ⟨D0, nm0, rfl, rfl, hrow, hs, α2, μ2, S2, q2⟩ := h2
      obtain ⟨vs, hv⟩ := hfl
      have hrm : L2H.RoomH kn ((X.A.deeper (envOfC x (defScope st) s'.heap.objs.size g cdv)).mark (some (.ref a))) := L2H.RoomH.mono ⟨hr'.dp, hr'.un⟩ (by omega)
      exact (pss_one (ps_ret (pe_nm (X := (cxOf (L2N.CX X.prog X.w) X.prog X.w X.K X.mg X.base ["call", "e"] x (defScope st) g cdv X.A X.stack s' H1 E0).suite a ((a, oe) :: pn)) (i := 1) hn hrm (a0 := a) (oe := oe) ⟨rfl, vs, hv, hz.2.2 vs hv⟩ List.mem_cons_self hz.zc hrow rfl (.inl gE) gN))).run pins2 s2 σ2 H2 D2 I2 ⟨hs, α2, μ2, S2, q2⟩
    · refine ⟨rfl, hco, ρ, α, μ, S1, sl1, ?_⟩
      have q1 : PQ (CvX X T) E Q H1 α μ (match f ρ μ with
        | .ok _ μ1 => .ok (.d (.str "")) μ1
        | .er x μ1 => ofO ((nm x).map fun s => W.d (.str s)) μ1
        | .no => .no) := q1
      cases e : f ρ μ with
      | no => rw [e] at q1; exact q1.elim
      | ok w μ1 =>
        rw [e] at q1
        exact fun v H' α' st2 S2 _ => q1 (.str "") H' α' st2 S2 (.str _)
      | er y μ1 =>
        rw [e] at q1
        have q1 : PQ (CvX X T) E Q H1 α μ (ofO ((nm y).map fun s => W.d (.str s)) μ1) := q1
        obtain ⟨z, ez, q2⟩ := PQ.cut q1
        cases en : nm y with
        | none => rw [en] at ez; cases ez
        | some t =>
          rw [en] at ez
          cases ez
          obtain ⟨ha, D0, hm0, hx0, hrow⟩ := hnm y t en
          intro cls d H' α' st2 S2 rx
          obtain ⟨r1, r2⟩ := rx
          have r1 : X.mg y.cls = some cls := r1
          rw [hm0] at r1
          cases r1
          rw [ha] at r2
          obtain rfl := r2
          exact ⟨true, hx0, fun _ a na => ⟨D0, t, rfl, rfl, hrow, rfl, α', μ1, S2, fun v H3 α3 st3 S3 r3 => q2 v H3 α3 (st2.trans st3) S3 r3⟩, fun z => nomatch z⟩
  refine wpAny_call (codeAny_mono rc fun r s2 hq => ?_)
  cases r with
  | error e =>
    obtain ⟨_, _, _, _, _, _, _, _, _, _, _, _, z⟩ := hq
    exact z.elim
  | ok fl =>
    cases fl with
    | ret u => exact I1.after hq
    | next => exact False.elim hq
    | brk => exact False.elim hq
    | cont => exact False.elim hq
end
/-- what isinstance answers of the class at D -/
structure NmRow (K : PySem.W.Frag) (mg : Str → Option Value) (D : Addr) (b : Nat → Bool) : Prop where
  exc : ExcC K D
  own : ∀ (i : Nat) (x : Str) (A : Addr), ownCls[i]? = some x → mg x = some (.ref A) → PySem.W.kitOne K (.ref D) (.ref A) = some (b i)
  val : PySem.W.kitOne K (.ref D) (.type "ValueError") = some (b 16)
def NmR (K : PySem.W.Frag) (mg : Str → Option Value) : Addr → Str → Prop := fun D s => ∃ i, labs[i]? = some s ∧ NmRow K mg D (bOf i)
/-- what is known of an own class that is raised -/
def ClsRow (K : PySem.W.Frag) (mg : Str → Option Value) (x : Str) : Prop := ∃ i D CS, ownCls.idxOf? x = some i ∧ mg x = some (.ref D) ∧ mg "WalkError" = some (.ref CS) ∧ PySem.W.exmOne K (.ref D) (.ref CS) = some true ∧ NmRow K mg D (bOf i)
section
variable {P : Program} {w : World} {K : PySem.W.Frag} {mg : Str → Option Value} {base : Heap} {T : List (Addr × Str)} {k : Nat}
theorem try_ok {st : Stmt} {cl : List Str} (df : DefFact K mg "_law_error" st ["call"]) (Sg : FnScope ["call", "e"] ["call"] (defScope st))
    (hB : ∃ (j : Nat) (p1 p2 p3 p4 p5 p6 p7 p8 p9 p10 p11 p12 : Pos), defBody st = [.Try [.Expr (.Call (.Name "call" p1) [] [] p2) p3] [.ExceptHandler (some (.Name "WalkError" p4)) (some "e") [.Return (some (.Call (.Name "_law_names" p5) [.Name "e" p6] [] p7)) p8] p9] [] [] p10, .Return (some (.Constant (.str "") j p11)) p12])
    (g1 : (defScope st).names.lookup ("WalkError" : Str) = some .globalImplicit) (g2 : (defScope st).names.lookup ("_law_names" : Str) = some .globalImplicit) (g3 : (defScope st).names.lookup ("e" : Str) = some .local) (g4 : (defScope st).names.lookup ("call" : Str) = some .local)
    (hn : HasNm P w K mg base T k "_law_names" (NmR K mg)) (hW : ∃ CS, mg "WalkError" = some (.ref CS)) (hc : ∀ x ∈ cl, ClsRow K mg x) : HasTry P w K mg base T k "_law_error" (nmC cl) := by
  obtain ⟨CS, hW⟩ := hW
  refine ⟨st, NmR K mg, CS, df, Sg, hB, g1, g2, g3, g4, hn, hW, fun x s h => ?_⟩
  unfold nmC at h
  split at h
  · cases h
  · rename_i ha
    split at h
    · rename_i hx
      obtain ⟨i, D, CS', h1, h2, h3, h4, h5⟩ := hc x.cls (by simpa using hx)
      rw [h1] at h
      rw [h3] at hW
      cases hW
      exact ⟨ha, D, h2, h4, i, h, h5⟩
    · cases h
end
/-! ### a def with lambdas -/
def qLam (x : Str) : Str := x ++ ".<locals>." ++ "<lambda>"
/-- .. its function object told -/
structure DefL (K : PySem.W.Frag) (mg : Str → Option Value) (base : Heap) (T : List (Addr × Str)) (x : Str) (st : Stmt) (ps : List Str) (f : Addr) (fd : FuncData) : Prop where
  fu : ∃ dvs kws, FunD K x x (defArgs st) (defBody st) (defScope st) dvs kws f fd
  hm : mg x = some (.ref f)
  hb : Binds K fd ps []
  code : ∃ c P, fd.code = .ref c ∧ LamX.TabB base mg c P ∧ (P, qLam x) ∈ T ∧ ∀ p ∈ T, p.1 = P → p.2 = qLam x
section
variable {P : Program} {w : World} {K : PySem.W.Frag} {mg : Str → Option Value} {base : Heap} {T : List (Addr × Str)}
theorem fn_okF {x : Str} {st : Stmt} {N ps : List Str} {k : Nat} {F : SF} {f : Addr} {fd : FuncData} (d : DefL K mg base T x st ps f fd) (S : FnScope N ps (defScope st))
    (hbody : ∀ (f : Addr) (cdv : Value) (A : Around) (outer : List PySem.Env) (s : Shared) (H : Hp) (E : XK), CK (cxOf (L2N.CX P w) P w K mg base N x (defScope st) f cdv A outer s H E) E k →
      PassesOwn (model P w) (cxOf (L2N.CX P w) P w K mg base N x (defScope st) f cdv A outer s H E).A (cxOf (L2N.CX P w) P w K mg base N x (defScope st) f cdv A outer s H E).env (cxOf (L2N.CX P w) P w K mg base N x (defScope st) f cdv A outer s H E).xe →
      LamAt (cxOf (L2N.CX P w) P w K mg base N x (defScope st) f cdv A outer s H E) T →
      DSs (cxOf (L2N.CX P w) P w K mg base N x (defScope st) f cdv A outer s H E) T E (defBody st) F) : FnOk P w K mg base (L2N.CX P w) (k + 1) f fd ps (spD ⟨K, mg, T⟩ (fnOf ps.length N.length F)) := by
  obtain ⟨⟨dvs, kws, Fu⟩, hm, hb, c, PP, hcd, TB, hT, hu⟩ := d
  obtain ⟨oc, od, dV, kV, doc, pm, an, cdv, ct, osl, rfl, lk, hcdi, _, _⟩ := Fu.ex
  obtain rfl : cdv = .ref c := hcd
  refine fn_of lk hcdi S (fun vs H Q E h => ?_) fun A outer s H vs Q E hr h => ?_
  · obtain ⟨ws, α, μ, S, rs, q⟩ := h
    unfold fnOf at q
    split at q
    · rename_i hl
      rw [rs.length]
      exact hl
    · exact q.elim
  · obtain ⟨ws, α, μ, St, rs, q⟩ := h
    have tk : L2N.Takes (cxOf (L2N.CX P w) P w K mg base N x (defScope st) f (.ref c) A outer s H E) (fun cls d _ H => E cls d H) := L2N.takes_of rfl rfl rfl rfl
    refine ⟨_, hbody f (.ref c) A outer s H E ⟨rfl, S.nd, hr, tk⟩ (passes_of rfl) ⟨c, PP, rfl, TB, hT, hu⟩, ?_⟩
    unfold fnOf at q
    split at q
    · rename_i hl
      refine ⟨startE N.length ws, α, μ, St, ⟨?_, ?_⟩, fin_ok (D := { nx := fun _ H' => Q .non H', rt := Q }) St ⟨rfl, rfl⟩ q⟩
      · have e := rs.length
        simp only [startE, L2.start, List.length_append, List.length_map, List.length_replicate, e]
      · have e := rs.length
        have z := Sl.start rs (N.length - ws.length)
        unfold startE L2.start
        rw [e]
        exact z
    · exact q.elim
/-- .. not told which -/
structure LamF (K : PySem.W.Frag) (mg : Str → Option Value) (base : Heap) (T : List (Addr × Str)) (x : Str) (st : Stmt) (ps : List Str) : Prop where
  ex : ∃ f fd, DefL K mg base T x st ps f fd
theorem DefL.has {x : Str} {st : Stmt} {ps : List Str} {k : Nat} {f : Addr} {fd : FuncData} {g : GF} (d : DefL K mg base T x st ps f fd) (h : FnOk P w K mg base (L2N.CX P w) k f fd ps (spD ⟨K, mg, T⟩ g)) : HasFn P w K mg base T k x g := by
  obtain ⟨⟨dvs, kws, Fu⟩, hm, hb, _⟩ := d
  exact ⟨f, fd, ps, [], [], [], _, hm, Fu.kp, hb, .nil, fun _ _ => .nil, fun ws μ => by rw [List.map_nil, List.append_nil], h⟩
theorem fn_okL {x : Str} {st : Stmt} {N ps : List Str} {k : Nat} {F : SF} (d : LamF K mg base T x st ps) (S : FnScope N ps (defScope st))
    (hbody : ∀ (f : Addr) (cdv : Value) (A : Around) (outer : List PySem.Env) (s : Shared) (H : Hp) (E : XK), CK (cxOf (L2N.CX P w) P w K mg base N x (defScope st) f cdv A outer s H E) E k →
      PassesOwn (model P w) (cxOf (L2N.CX P w) P w K mg base N x (defScope st) f cdv A outer s H E).A (cxOf (L2N.CX P w) P w K mg base N x (defScope st) f cdv A outer s H E).env (cxOf (L2N.CX P w) P w K mg base N x (defScope st) f cdv A outer s H E).xe →
      LamAt (cxOf (L2N.CX P w) P w K mg base N x (defScope st) f cdv A outer s H E) T →
      DSs (cxOf (L2N.CX P w) P w K mg base N x (defScope st) f cdv A outer s H E) T E (defBody st) F) : HasFn P w K mg base T (k + 1) x (fnOf ps.length N.length F) := by
  obtain ⟨f, fd, tl⟩ := d.ex
  exact tl.has (fn_okF tl S hbody)
end
end L3

set_option Elab.async false
set_option linter.all false
set_option maxRecDepth 100000
set_option maxHeartbeats 2000000
/-! Defs as values: a comprehension over several defs, a call of a name that holds one. -/
namespace L3
open PySem PySem.Spec PyProof.Rows L2 Mi
section
variable {X : Cx} {T : List (Addr × Str)} {E : XK} {j : Nat} {pos : Pos} {a : Expr} {es : List Expr} {f g : EF} {r : AF}
theorem RpWs.get {C : Cv} {H : Hp} {α : Al} {μ : Sto} : ∀ {vs : List V} {ws : List W} {i : Nat} {w : W}, RpWs C H α μ vs ws → ws[i]? = some w → ∃ v, vs[i]? = some v ∧ RpW C H α μ v w
  | _, _, _, _, .nil, e => by simp at e
  | _, _, 0, _, .cons r _, e => by simp at e; subst e; exact ⟨_, rfl, r⟩
  | _, _, i + 1, w, .cons _ t, e => by
    obtain ⟨v, h1, h2⟩ := RpWs.get (i := i) (w := w) t (by simpa using e)
    exact ⟨v, by simpa using h1, h2⟩
theorem rpw_inv {C : Cv} {P : Addr} {H1 H2 : Hp} {α1 α2 : Al} {μ1 μ2 : Sto} {n : Nat} {accD : List PyData} {acc : List V} (I : LcInv C P H1 α1 μ1 n accD H2 α2 μ2 acc) {v : V} {w : W} (h : RpW C H1 α1 μ1 v w) : RpW C H2 (α2.hide P) μ2 v w := by
  cases w with
  | d d => exact Rp.ext I.ext h
  | m k => obtain ⟨a, h3, h4⟩ := h; exact ⟨a, I.pre _ _ h3, h4⟩
  | f x => exact h
  | x k => exact h
theorem wipe_set {σ : L2.St} {vs : List Nat} {i : Nat} {o : Option V} (h : i ∈ vs) : L2.wipe ((L2.wipe σ vs).set i o) vs = L2.wipe σ vs := by
  refine List.ext_getElem? fun k => ?_
  rw [wipe_at, wipe_at, List.getElem?_set]
  by_cases hk : k ∈ vs
  · rw [if_pos hk, if_pos hk, L2.wipe_length]
    by_cases e : i = k
    · subst e
      rw [if_pos rfl]
      by_cases hl : i < σ.length
      · rw [if_pos hl, List.getElem?_eq_getElem hl]
        rfl
      · rw [if_neg hl, List.getElem?_eq_none (by omega)]
    · rw [if_neg e, wipe_at, if_pos hk, Option.map_map]
      rfl
  · rw [if_neg hk, if_neg hk, if_neg (fun e => hk (by rw [← e]; exact h)), wipe_at, if_neg hk]
theorem lcW_rd {vs : List Nat} {i : Nat} {σ : L2.St} {H : Hp} {Q : VK} (hr : DA X T E es r) (hl : es.length ≤ 1000) (hw : i ∈ vs) (q : tD (CvX X T) E (eLcW vs i r g) σ H Q) :
    tLc (iTup X.K (tTup (tDs (CvX X T) E r))) (gName i) tYes (tD (CvX X T) E0 g) vs σ H Q := by
  obtain ⟨ρ, α, μ, S, sl, q⟩ := q
  refine hr.read (C := CvX X T) (k := fun ws μ1 => lcW i g (wipeE ρ vs) ws [] μ1) S sl q fun us ws H0 α1 μ1 st0 S0 sl0 rs0 ln q1 => ?_
  refine ⟨by rw [rs0.length, ln]; exact Nat.le_trans hl (by decide), fun p np => ⟨p, rfl, ⟨us, .inl (.inl upd_same)⟩, fun P nP => ?_⟩⟩
  have sm := same_upd (o := .tup us) np
  have st1 := Same.step S0 sm
  have S1 := S0.same sm
  have sl1 := sl0.step st1
  have rs := rs0.step st1
  have hT : SqT X.K (upd H0 p (.tup us)) p us := .inl (.inl upd_same)
  replace q1 := PQ.step q1 st1
  generalize upd H0 p (.tup us) = H1 at *
  have lim : us.length ≤ sizeLine := by rw [rs0.length, ln]; exact Nat.le_trans hl (by decide)
  have hlen := rs.length
  have I0 : LcInv (CvX X T) P H1 α1 μ1 0 [] (upd H1 P (.lst [])) α1 μ1 [] :=
    ⟨stor_hide S1 nP, ext_hide S1 nP, fun _ _ h => h, rfl, (Same.step S1 (same_upd nP)).keep, upd_same, Nat.le_refl _, .nil⟩
  refine ⟨fun n m H2 => m = ws.length - n ∧ n ≤ ws.length ∧ ∃ α2 μ2 acc accD, LcInv (CvX X T) P H1 α1 μ1 n accD H2 α2 μ2 acc ∧ PQ (CvX X T) E Q H1 α1 μ1 (lcW i g (wipeE ρ vs) (ws.drop n) accD μ2),
    ⟨ws.length, rfl, Nat.zero_le _, α1, μ1, [], [], I0, q1⟩, ?_⟩
  rintro n m H2 ⟨rfl, hi, α2, μ2, acc, accD, I2, q2⟩
  have hT2 : SqT X.K H2 p us := I2.ext.sqT hT
  by_cases hlt : n < ws.length
  · obtain ⟨w, hd⟩ : ∃ w, ws[n]? = some w := ⟨ws[n], List.getElem?_eq_getElem hlt⟩
    have ed : ws.drop n = w :: ws.drop (n + 1) := by
      rw [List.drop_eq_getElem_cons hlt]
      congr 1
      rw [List.getElem?_eq_getElem hlt] at hd
      exact Option.some.inj hd
    rw [ed] at q2
    obtain ⟨v, hv, rv⟩ := rs.get hd
    refine .inr ⟨⟨us, v, hT2, hv⟩, fun H3 => n + 1 ≤ ws.length ∧ ∃ α2 μ2 acc accD, LcInv (CvX X T) P H1 α1 μ1 (n + 1) accD H3 α2 μ2 acc ∧ PQ (CvX X T) E Q H1 α1 μ1 (lcW i g (wipeE ρ vs) (ws.drop (n + 1)) accD μ2), fun H3 n => ⟨_, by omega, rfl, n⟩, fun x H3 yy => ?_⟩
    obtain ⟨rfl, yy⟩ := yy
    have ex := yy us hT2
    rw [hv] at ex
    cases ex
    have sl3 : Sl (CvX X T) H3 (α2.hide P) μ2 (L2.wipe σ vs) (wipeE ρ vs) := by
      have z := sl1.wipe vs
      refine ⟨z.len, fun i w h => ?_⟩
      obtain ⟨v, h1, h2⟩ := z.at_ i w h
      exact ⟨v, h1, rpw_inv I2 h2⟩
    have sl4 := sl3.set (rpw_inv I2 rv) i
    refine ⟨wipe_set hw, ?_⟩
    dsimp only [tYes]
    rw [if_pos rfl]
    unfold lcW at q2
    refine ⟨(wipeE ρ vs).set i (some w), α2.hide P, μ2, I2.stor, sl4, ?_⟩
    split at q2
    · rename_i z μ6 eg
      rw [eg]
      intro v6 H6 α6 st6 S6 r6
      obtain ⟨α7, e7, I7⟩ := I2.go st6 S6
      subst e7
      exact ⟨acc, I7.list, Nat.lt_of_le_of_lt I7.len (Nat.lt_of_lt_of_le hlt (by rw [← hlen]; exact lim)), hlt, α7, μ6, _, _, I7.put nP S1 r6, q2⟩
    · exact q2.elim
  · have e0 : ws.drop n = [] := List.drop_eq_nil_of_le (by omega)
    rw [e0] at q2
    refine .inl ⟨⟨us, hT2, by omega⟩, q2 _ H2 α2 I2.st (stor_unhide I2.stor) (.lst (.inl I2.list) (fun z => ?_) (I2.rep.ext ext_unhide))⟩
    have hn := (nodup_hide I2.stor).1
    rcases z with ⟨k, c, h1, h2⟩ | z
    · exact hn (List.mem_append_left _ (List.mem_of_getElem? h1))
    · exact hn (List.mem_append_right _ z)
theorem de_lcW {i : Nat} {x : Str} {p p2 : Pos} {kk : Nat} {elt : Expr} {scope : Scope} {own : List (Str × Nat)} (ck : CK X E j) (hr : DA X T E es r) (ok : BlkOk X.N X.env.scope scope own)
    (hg : ∀ (s : Shared) (H : Hp) (D : Addr) (cl : List (Str × Addr)) (fp : List Addr), PG (X.blk s H scope (compEnvC scope cl D X.env) fp) (.Name x p) (gName i))
    (he : ∀ (s : Shared) (H : Hp) (D : Addr) (cl : List (Str × Addr)) (fp : List Addr), CK (X.blk s H scope (compEnvC scope cl D X.env) fp) E0 j → DE (X.blk s H scope (compEnvC scope cl D X.env) fp) T E0 elt g)
    (hw : i ∈ own.map (·.2) := by decide) (hl : es.length ≤ 1000 := by decide) (hs : ∀ x, foldedSetIterable (.Tuple es kk p2) X.env x = pure x := by intro _; rfl) :
    DE X T E (.ListComp elt [⟨.Name x p, .Tuple es kk p2, [], 0⟩] scope pos) (eLcW (own.map (·.2)) i r g) :=
  pe_imp (pe_lc (g := gName i) (tt := tYes) (te := tD (CvX X T) E0 g) ck.calm ck.nd (pi_tup (pe_tup hr.pa)) ok hg (fun s H D cl fp => pts_nil) (fun s H D cl fp => he s H D cl fp (ck.blk s H scope _ fp)) hs) fun σ H Q q => lcW_rd hr hl hw q
theorem de_callV (i : Nat) {x : Str} {p : Pos} {k : Nat} {gs : List (Str × GF)} (ck : CK X E j) (hf : ∀ y g, gs.lookup y = some g → HasFn X.prog X.w X.K X.mg X.base T k y g) (hr : DA X T E (a :: es) r) (hk : k ≤ j := by decide)
    (hN : X.N[i]? = some x := by rfl) (hv : Vis X.env.scope x := by first | exact Or.inl rfl | exact Or.inr (Or.inl rfl) | exact Or.inr (Or.inr rfl)) (hdb : (x == ("__debug__" : Str)) = false := by decide) (hcd : (x == ("__classdict__" : Str)) = false := by decide)
    (he : starEach (a :: es) X.env = (false, eval a X.env) :: starEach es X.env := by rfl) (hpl : (backTo pos (starEach es X.env)).any (·.1) = false := by rfl) : DE X T E (.Call (.Name x p) (a :: es) [] pos) (eCallV i gs r) := by
  refine ⟨fun pins s σ H Q I ⟨ρ, α, μ, S, sl, q⟩ => ?_⟩
  unfold eCallV at q
  split at q
  · rename_i y e
    obtain ⟨v, hs, A, hA, rfl⟩ := sl.at_ i _ e
    split at q
    · rename_i gf eg
      obtain ⟨f, fd, ps, ds, dvs, dd, g0, h1, h2, h3, h4, h5, h6, h7⟩ := (hf y gf eg).ex
      have hA : X.mg y = some (.ref A) := hA
      rw [h1] at hA
      cases hA
      refine (pe_callL h7 (ck.room.mono hk) hN hv h2 h3 h4 ck.passes hr.pa hdb hcd he hpl).run pins s σ H Q I ⟨hs, ?_⟩
      refine hr.read (C := CvX X T) S sl q fun vs ws H1 α1 μ1 st S1 sl1 rs ln q1 => ?_
      rw [h6] at q1
      exact ⟨ws ++ dd.map W.d, α1, μ1, S1, rs.append (RpAll.ws (h5 _ _)), q1⟩
    · exact (show False from q).elim
  · exact (show False from q).elim
theorem truV_of {C : Cv} {H : Hp} {M : Addr → Prop} {v : V} {d : PyData} {k : Bool} (r : RpT C.K H M v d) (e : truD d = some k) : TruV C.K v H k := by
  unfold truD at e
  split at e
  · cases e; rw [r.none]; exact (rfl : false = false)
  · cases e; rw [r.bl]; exact (rfl : k = k)
  · cases e; rw [r.int]; exact rfl
  · split at e
    · rename_i hl
      cases e; rw [r.str]; exact ⟨lim_line hl, rfl⟩
    · cases e
  · cases e
    obtain ⟨a, xs, rfl, h, rr⟩ := r.list
    refine .inl ⟨xs, .inl h, ?_⟩
    cases rr <;> rfl
  · cases e
    obtain ⟨a, xs, rfl, h, rr⟩ := r.tuple
    refine .inr (.inl ⟨xs, h, ?_⟩)
    cases rr <;> rfl
  · cases e
theorem de_notT (ha : DE X T E a f) : DE X T E (.UnaryOp .Not a pos) (eNotT f) :=
  pe_imp (pe_notT ha) fun σ H Q ⟨ρ, α, μ, S, sl, q⟩ => tD_bind S sl q fun v w H1 α1 μ1 st S1 sl1 r1 q1 => by
    obtain ⟨z, e, q2⟩ := PQ.ofO q1
    cases e1 : Mi.view μ1 w with
    | none => rw [e1] at e; cases e
    | some d =>
      rw [e1] at e
      cases e2 : truD d with
      | none => simp [e2] at e
      | some k =>
        simp [e2] at e
        subst e
        exact ⟨k, truV_of (r1.view S1 e1) e2, q2 _ H1 α1 (.refl _ _ _) S1 (.bl _)⟩
theorem de_fnx {x : Str} {st : Stmt} {ps : List Str} (d : DefFact X.K X.mg x st ps) (hg : Gl X x := by rfl) (hd : (x == ("__debug__" : Str)) = false := by decide) : DE X T E (.Name x pos) (eFn x) := by
  obtain ⟨f, fd, dvs, kws, Fu, hm, hb⟩ := d.ex
  exact de_fn hm hg hd
theorem de_catM {b : Expr} (ha : DE X T E a f) (hb : DE X T E b g) : DE X T E (.BinOp a .Add b pos) (eCatM f g) :=
  pe_imp (pe_op op_catR ha hb) fun σ H Q ⟨ρ, α, μ, S, sl, q⟩ => tD_bind S sl q fun v w H1 α1 μ1 st1 S1 sl1 r1 q1 => tD_bind S1 sl1 q1 fun u w2 H2 α2 μ2 st2 S2 sl2 r2 q2 => by
    have r1 := r1.step st2
    split at q2
    · rename_i x y e1 e2
      split at q2
      · rename_i hl
        obtain ⟨p1, xs, rfl, h1, s1⟩ := (r1.view S2 e1).list
        obtain ⟨p2, ys, rfl, h2, s2⟩ := (r2.view S2 e2).list
        refine ⟨p1, p2, xs, ys, rfl, rfl, h1, h2, by rw [s1.length, s2.length]; exact lim_line hl, fun p np => ?_⟩
        exact q2 _ _ _ (step_push S2 np) (stor_push S2 np (s1.append s2)) ⟨p, by show (α2.own ++ [p])[_]? = _; rw [← S2.len]; simp, rfl⟩
      · exact (show False from q2).elim
    · exact (show False from q2).elim
/-- ahead of a statement: a list that is not changed any more -/
theorem ds_frz (i : Nat) {st : Stmt} {F : SF} (h : DS X T E st F) : DS X T E st (sSeq (sFrz i) F) :=
  ps_imp h fun D σ H ⟨ρ, α, μ, S, sl, q⟩ => by
    unfold sSeq sFrz at q
    split at q
    · rename_i ρ1 μ1 e
      split at e
      · rename_i k ek
        split at e
        · rename_i l el
          cases e
          obtain ⟨v, h1, a, ha, rfl⟩ := sl.at_ i _ ek
          obtain ⟨st2, S2, r2⟩ := own_give S (mlist_at el) ha
          have z := (sl.step st2).set (w := .d (.list l)) r2 i
          have es : σ.set i (some (.ref a)) = σ := by
            refine List.ext_getElem? fun j => ?_
            by_cases hj : i = j
            · subst hj
              rw [List.getElem?_set_self (List.getElem?_eq_some_iff.mp h1).1, h1]
            · rw [List.getElem?_set_ne hj]
          rw [es] at z
          exact ⟨_, _, _, S2, z, QS.step q st2⟩
        · cases e
      · cases e
    · rename_i hne
      split at q
      · rename_i k ek
        split at q
        · rename_i l el
          exact absurd (by rw [ek]; dsimp only; rw [el]) (hne _ _)
        · exact (show False from q).elim
      · exact (show False from q).elim
/-- a, b = x, y where a comprehension or a lambda sees a or b: by a tuple -/
theorem ds_parT (i k : Nat) {a b : Expr} {x y : Str} {px py pt : Pos} {kt k2 pt2} (ck : CK X E j) (ha : DE X T E a f) (hb : DE X T E b g) (hi : X.N[i]? = some x := by rfl) (hj : X.N[k]? = some y := by rfl)
    (hx : Loc X.env.scope x := by first | exact Or.inl rfl | exact Or.inr rfl) (hy : Loc X.env.scope y := by first | exact Or.inl rfl | exact Or.inr rfl)
    (hfx : X.fn x = true ∨ X.env.scope.names.lookup x = some .local := by first | exact Or.inl rfl | exact Or.inr rfl) (hfy : X.fn y = true ∨ X.env.scope.names.lookup y = some .local := by first | exact Or.inl rfl | exact Or.inr rfl)
    (hw : swappedStores [.Tuple [.Name x px, .Name y py] kt pt] (.Tuple [a, b] k2 pt2) X.env = pure none := by rfl)
    (hs : swapsWithSole [.Tuple [.Name x px, .Name y py] kt pt] (.Tuple [a, b] k2 pt2) pos.line X.env = pure false := by rfl)
    (hs1 : starEach [a, b] X.env = (false, eval a X.env) :: starEach [b] X.env := by rfl) (hs2 : starEach [b] X.env = (false, eval b X.env) :: starEach [] X.env := by rfl) :
    DS X T E (.Assign [.Tuple [.Name x px, .Name y py] kt pt] (.Tuple [a, b] k2 pt2) pos) (sPar i k f g) :=
  ps_imp (ps_asg (pe_tup (pa_cons ha (pa_cons hb pa_nil hs2) hs1)) (pg_tup ck.calm (pgs_cons (pg_name ck.nd hi hx hfx) (pgs_cons (pg_name ck.nd hj hy hfy) pgs_nil))) hs hw) fun D σ H ⟨ρ, α, μ, S, sl, q⟩ =>
    tD_bindS S sl q fun v w H1 α1 μ1 st S1 sl1 r q1 => tD_bindS S1 sl1 q1 fun v2 w2 H2 α2 μ2 st2 S2 sl2 r2 q2 => by
      refine ⟨(by decide : 2 ≤ sizeLine), fun p np => ⟨p, [v, v2], rfl, .inl (.inl upd_same), rfl, v, [v2], rfl, v2, [], rfl, rfl, ?_⟩⟩
      have sm := same_upd (o := .tup [v, v2]) np
      have st3 := Same.step S2 sm
      exact QS.nx (S2.same sm) (((sl2.set (r.step st2) i).set r2 k).step st3) (QS.step q2 st3)
/-- defs that a name may hold -/
theorem held_nil {P : Program} {w : World} {K : PySem.W.Frag} {mg : Str → Option Value} {base : Heap} {k : Nat} : ∀ (y : Str) (g : GF), ([] : List (Str × GF)).lookup y = some g → HasFn P w K mg base T k y g := fun y g e => by cases e
theorem held_cons {P : Program} {w : World} {K : PySem.W.Frag} {mg : Str → Option Value} {base : Heap} {k : Nat} {x : Str} {g0 : GF} {gs : List (Str × GF)} (h : HasFn P w K mg base T k x g0) (r : ∀ (y : Str) (g : GF), gs.lookup y = some g → HasFn P w K mg base T k y g) :
    ∀ (y : Str) (g : GF), ((x, g0) :: gs).lookup y = some g → HasFn P w K mg base T k y g := fun y g e => by
  rw [List.lookup_cons] at e
  split at e
  · rename_i hb
    cases e
    have : y = x := by simpa using hb
    subst this
    exact h
  · exact r y g e
end
end L3

set_option Elab.async false
set_option linter.all false
set_option maxRecDepth 100000
set_option maxHeartbeats 2000000
/-! t[::-1] of a tuple. -/
namespace L3
open PySem PySem.Spec PyProof.Rows L2 Mi HT
section
variable {prog : Program} {w : World} {A : Around} {E : Value → Shared → Prop} {s : Shared}
theorem sliceApplied_rev {sl : Addr} {vs : Value} {n : Nat} {Q : Int × Int × Nat → Shared → Prop} (hs : s.heap.IsSliceOf sl .none .none vs) (ps : IsPart vs (some (-1)))
    (h : Q ((n : Int) - 1, -1, n) s) : wpAny (model prog w) A (Builtin.Slice.sliceApplied (.ref sl) (pure (n : Int))) Q E s := by
  obtain ⟨os, hos, hcs, hds⟩ := id hs
  unfold Builtin.Slice.sliceApplied Builtin.Slice.sliceFields
  refine wpAny_bind (wpAny_bind (wpAny_field hos hds (x := .none) rfl (wpAny_bind (wpAny_field hos hds (x := .none) rfl (wpAny_bind (wpAny_field hos hds (x := vs) rfl (wpAny_pure ?_)))))))
  refine wpAny_bind (slicePart_ ps ?_)
  show wpAny _ _ (if ((-1 : Int) == 0) = true then _ else _) _ _ s
  rw [if_neg (by decide)]
  refine wpAny_bind (slicePart_none (wpAny_bind (slicePart_none (wpAny_bind (wpAny_pure ?_)))))
  have e1 : Builtin.Slice.sliceAdjust none none (-1) (n : Int) = ((n : Int) - 1, -1) := by
    simp [Builtin.Slice.sliceAdjust]
  show wpAny _ _ (match Builtin.Slice.sliceAdjust none none (-1) (n : Int) with | (lo, hi) => pure (lo, (-1 : Int), Builtin.Slice.slicePlaces lo hi (-1))) _ _ s
  rw [e1]
  have e2 : Builtin.Slice.slicePlaces ((n : Int) - 1) (-1) (-1) = n := by
    unfold Builtin.Slice.slicePlaces
    have h1 : ¬ ((-1 : Int) > 0) := by decide
    rw [if_neg h1]
    split
    · rw [show (- -1 : Int) = 1 by decide, Int.ediv_one]
      omega
    · omega
  show wpAny _ _ (pure ((n : Int) - 1, (-1 : Int), Builtin.Slice.slicePlaces ((n : Int) - 1) (-1) (-1))) _ _ s
  rw [e2]
  exact wpAny_pure h
theorem fm_congr {α β : Type} {f g : α → Option β} : ∀ {l : List α}, (∀ x ∈ l, f x = g x) → l.filterMap f = l.filterMap g
  | [], _ => rfl
  | a :: l, h => by rw [List.filterMap_cons, List.filterMap_cons, h a List.mem_cons_self, fm_congr fun x hx => h x (List.mem_cons_of_mem _ hx)]
theorem pick_rev (xs : Array Value) : ((List.range xs.size).filterMap fun (m : Nat) => xs[((xs.size : Int) - 1 + (m : Int) * (-1)).toNat]?).toArray = xs.toList.reverse.toArray := by
  congr 1
  have e : (List.range xs.size).filterMap (fun (m : Nat) => xs[((xs.size : Int) - 1 + (m : Int) * (-1)).toNat]?) = ((List.range xs.size).map fun k => xs.size - 1 - k).filterMap (xs[·]?) := by
    rw [List.filterMap_map]
    refine fm_congr fun m hm => ?_
    have := List.mem_range.mp hm
    show xs[((xs.size : Int) - 1 + (m : Int) * (-1)).toNat]? = xs[xs.size - 1 - m]?
    congr 1
    omega
  rw [e, PySem.W.krv_range, List.filterMap_reverse, PySem.W.krv_all]
theorem getItem_tuple_rev {t sl : Addr} {items : Array Value} {vs : Value} {Q : Value → Shared → Prop} (ht : IsTup s.heap t items) (hs : s.heap.IsSliceOf sl .none .none vs) (ps : IsPart vs (some (-1)))
    (h : Q (.ref s.heap.objs.size) { s with heap := s.heap.push { cls := .type "tuple", data := .seq items.toList.reverse.toArray } })
    (hsz : items.size ≤ sizeLine) : wpAny (model prog w) A (getItem (.ref t) (.ref sl)) Q E s := by
  have htake : sizeOk (.seq items.toList.reverse.toArray) := by
    show items.toList.reverse.toArray.size ≤ sizeLine
    rw [List.size_toArray, List.length_reverse, Array.length_toList]
    exact hsz
  obtain ⟨os, hos, hcs, hds⟩ := id hs
  have hTs : s.TypeIs (.ref sl) "slice" := ⟨os, hos, hcs⟩
  unfold getItem
  try with_reducible refine wpAny_holding ?_
  first | refine wpAny_bind (wpAny_pure ?_) | skip
  refine wpAny_bind (wpAny_sequenceKey ht.typeIs (by decide) ?_)
  refine wpAny_bind (wpAny_callSpecial?_slot (name := Str.ofString "__getitem__") ht.typeIs PyProof.Rows.slot_tuple_getitem
    (wpAny_call_entry PyProof.Rows.slot_tuple_getitem ht.typeIs entry_tuple_getitem ?_ (args_tuple_getitem _ _)))
  show wpAny _ _ (Builtin.Tuple.tupleItemsOf (.ref t) >>= _) _ _ s
  refine wpAny_bind (tupleItemsOf_ ht ?_)
  refine wpAny_bind (wpAny_typeOf hTs ?_)
  rw [if_pos (by decide)]
  refine wpAny_bind (sliceApplied_rev hs ps ?_)
  have hno : ¬ (((items.size : Int) - 1 == 0 && (-1 : Int) == 1 && items.size == items.size) = true) := by
    rw [show ((-1 : Int) == 1) = false from rfl]
    simp
  show wpAny _ _ (if ((items.size : Int) - 1 == 0 && (-1 : Int) == 1 && items.size == items.size) = true then _ else _) _ _ s
  rw [if_neg hno, pick_rev]
  first
    | exact wpAny_bind (m := Builtin.Tuple.tupleExact _) (wpAny_newObj_type (wpAny_pure ⟨_, rfl, wpAny_pure h⟩) htake)
    | exact wpAny_bind (m := Builtin.Tuple.tupleExact _) (wpAny_newObj_type (wpAny_bind (wpAny_pure (wpAny_pure ⟨_, rfl, wpAny_pure h⟩))) htake)
    | exact wpAny_bind (wpAny_bind (m := Builtin.Tuple.tupleExact _) (wpAny_newObj_type (wpAny_pure (wpAny_pure ⟨_, rfl, wpAny_pure h⟩)) htake))
    | exact wpAny_bind (wpAny_bind (m := Builtin.Tuple.tupleExact _) (wpAny_newObj_type (wpAny_pure ⟨_, rfl, wpAny_pure h⟩) htake))
end
/-- xs[::-1] of a list or a tuple -/
def tRevA (K : PySem.W.Frag) (te : TE) : TE := fun σ H Q => te σ H fun x H1 => (∃ a xs, x = .ref a ∧ SqL K H1 a xs ∧ ∀ p, H1 p = none → Q (.ref p) (upd H1 p (.lst xs.reverse))) ∨
  (∃ a xs, x = .ref a ∧ SqT K H1 a xs ∧ ∀ p, H1 p = none → Q (.ref p) (upd H1 p (.tup xs.reverse)))
section
variable {X : Cx} {T : List (Addr × Str)} {E : XK} {j : Nat} {a : Expr} {f : EF}
theorem pe_revA {e : Expr} {te : TE} {k : Nat} {p1 p2 p3 pos : Pos} (he : PE X e te) : PE X (.Subscript e (.Slice none none (some (.UnaryOp .USub (.Constant (.int 1) k p1) p2)) p3) pos) (tRevA X.K te) := by
  refine ⟨fun pins s σ H Q I h => ?_⟩
  refine Subscript_ (thn (he.run pins s σ H _ I h) fun v s1 ⟨x, H1, I1, r1, q1⟩ => ?_)
  have hst : PO X (some (.UnaryOp .USub (.Constant (.int 1) k p1) p2)) (tPart (tUn (rU fun i => .int (-i)) (tC (.int 1)))) := po_some (pe_un un_neg pe_int)
  refine wpAny_Slice (thn (po_none.run pins s1 σ H1 (fun o H2 => o = none ∧ H2 = H1) I1 ⟨rfl, rfl⟩) fun vl s2 ⟨l, H2, I2, pl, el, e2⟩ => ?_)
  subst el e2
  refine thn (po_none.run pins s2 σ H2 (fun o H3 => o = none ∧ H3 = H2) I2 ⟨rfl, rfl⟩) fun vu s3 ⟨u, H3, I3, pu, eu, e3⟩ => ?_
  subst eu e3
  refine thn (hst.run pins s3 σ H3 (fun o H4 => o = some (-1) ∧ H4 = H3) I3 ⟨1, rfl, -1, rfl, rfl, rfl⟩) fun vs s4 ⟨o, H4, I4, ps, eo, e4⟩ => ?_
  subst eo e4
  have I5 : Inv X pins σ H4 { s4 with heap := s4.heap.push { cls := .type "slice", data := .fields #[vl, vu, vs] } } := I4.kept (t' := s4.toks) fun b ob q => Heap.get?_push_of_some _ q
  rcases q1 with ⟨a, xs, ex, hx, q⟩ | ⟨a, xs, ex, hx, q⟩
  · subst ex
    cases r1
    obtain ⟨its, r, ht, hz⟩ := I5.list hx
    have hlen := r.length
    show wpAny (model X.prog X.w) X.A (subscriptTail e (.Slice none none (some (.UnaryOp .USub (.Constant (.int 1) k p1) p2)) p3) (.ref a) (.ref s4.heap.objs.size)) (EP X pins σ Q) X.xe { s4 with heap := s4.heap.push { cls := .type "slice", data := .fields #[vl, vu, vs] } }
    refine tail_any (ops := [.ref a, .ref s4.heap.objs.size]) ht.isList.typeIs (PySem.slot_list_getitem.lookup) ?_ (by with_unfolding_all rfl)
    refine wpAny_getItem_list_slice ht.isList (Heap.IsSliceOf.new _ vl vu vs) pl pu ps (by decide) ?_ (by rw [List.size_toArray]; omega)
    rw [PySem.W.krv_pick]
    refine ⟨.ref _, _, I5.laid (t' := s4.toks) (o := .lst xs.reverse) (fun b ob q => Heap.get?_push_of_some _ q) (Nat.le_refl _) ?_, rfl, q _ (I5.hok.fresh (Nat.le_refl _))⟩
    exact ⟨by rw [List.length_reverse]; exact hz, _, 0, r.reverse, Heap.get?_push_size _ rfl⟩
  · subst ex
    cases r1
    cases pl
    cases pu
    obtain ⟨its, r, ht, hz⟩ := I5.tuple hx
    have hlen : its.toArray.size = xs.length := by rw [List.size_toArray]; exact r.length.symm
    show wpAny (model X.prog X.w) X.A (subscriptTail e (.Slice none none (some (.UnaryOp .USub (.Constant (.int 1) k p1) p2)) p3) (.ref a) (.ref s4.heap.objs.size)) (EP X pins σ Q) X.xe { s4 with heap := s4.heap.push { cls := .type "slice", data := .fields #[.none, .none, vs] } }
    refine tail_any (ops := [.ref a, .ref s4.heap.objs.size]) ht.typeIs PyProof.Rows.slot_tuple_getitem.lookup ?_ (by with_unfolding_all rfl)
    refine getItem_tuple_rev ht (Heap.IsSliceOf.new _ .none .none vs) ps ?_ (by rw [hlen]; exact hz)
    refine ⟨.ref _, _, I5.laid (t' := s4.toks) (o := .tup xs.reverse) (fun b ob q => Heap.get?_push_of_some _ q) (Nat.le_refl _) ?_, rfl, q _ (I5.hok.fresh (Nat.le_refl _))⟩
    exact ⟨by rw [List.length_reverse]; exact hz, _, r.reverse, IsTup.new _ _⟩
theorem de_revA {j1 : Nat} {p1 p2 p3 pos : Pos} (ha : DE X T E a f) : DE X T E (.Subscript a (.Slice none none (some (.UnaryOp .USub (.Constant (.int 1) j1 p1) p2)) p3) pos) (eUn dRev f) :=
  pe_imp (pe_revA ha) fun σ H Q ⟨ρ, α, μ, S, sl, q⟩ => tD_bind S sl q fun v w H1 α1 μ1 st1 S1 sl1 r1 q1 => by
    obtain ⟨z, e, q2⟩ := PQ.ofO q1
    cases e1 : view μ1 w with
    | none => rw [e1] at e; cases e
    | some d =>
      simp only [e1, Option.bind_some] at e
      cases d with
      | list l =>
        cases e
        obtain ⟨p4, xs, rfl, h4, r4⟩ := (r1.view S1 e1).list
        refine .inl ⟨p4, xs, rfl, .inl h4, fun p np => ?_⟩
        obtain ⟨sm, rp⟩ := rp_newL S1 np r4.reverse
        exact q2 _ _ _ (Same.step S1 sm) (S1.same sm) rp
      | tuple l =>
        cases e
        obtain ⟨p4, xs, rfl, h4, r4⟩ := (r1.view S1 e1).tuple
        refine .inr ⟨p4, xs, rfl, h4, fun p np => ?_⟩
        obtain ⟨sm, rp⟩ := rp_newT np r4.reverse
        exact q2 _ _ _ (Same.step S1 sm) (S1.same sm) rp
      | none => cases e
      | bool b => cases e
      | int b => cases e
      | str b => cases e
      | dict b => cases e
end
end L3

set_option Elab.async false
set_option linter.all false
set_option maxRecDepth 100000
set_option maxHeartbeats 2000000
/-! l.index(x), l.count(x), list(range(..)). -/
namespace L3
open PySem PySem.Spec PyProof.Rows L2 Mi
theorem R.bind_assoc {α β γ : Type} (r : R α) (f : α → Sto → R β) (g : β → Sto → R γ) : (r.bind f).bind g = r.bind fun a μ => (f a μ).bind g := by cases r <;> rfl
section
variable {X : Cx}
def rCntF (K : PySem.W.Frag) : V → List V → Hp → VK → Prop := fun x xs H Q => ∃ (a : Addr) (ys : List V) (y : V), x = V.ref a ∧ xs = [y] ∧ SqL K H a ys ∧ flatV y = true ∧ ys.all flatV = true ∧ Q (.int (ys.countP fun z => eqV z y : Nat)) H
theorem countP_eqU {y : V} : ∀ {ys : List V} {its : List Value}, Vals ys its → ys.all flatV = true → its.countP (eqU y) = ys.countP fun z => eqV z y
  | _, _, .nil, _ => rfl
  | _, _, .cons r t, h => by
    rw [List.all_cons, Bool.and_eq_true] at h
    rw [List.countP_cons, List.countP_cons, countP_eqU t h.2, eqU_of r h.1]
theorem mt_countF : MtR X "list.count" (rCntF X.K) := by
  intro pins s σ H x xs v us Q I rx rxs h
  obtain ⟨a, ys, y, rfl, rfl, hs, fy, fys, q⟩ := h
  cases rx
  cases rxs with
  | cons ry rt =>
    rename_i uy ut
    cases rt
    obtain ⟨its, rv, ⟨⟨cls, dd, data, sl⟩, n, ho, hc, hdn, hd⟩, hlen⟩ := I.list hs
    simp only at hc hd
    subst hc hd
    refine call_meets PySem.F.slot_list_count ⟨_, ho, rfl⟩ PySem.F.entry_list_count (PySem.F.args_list_count_2 _ _)
      (SeqAt.list_countAt a its.toArray n dd sl uy (eqU y)) ⟨ho, fun u' hu' => mem_eqAt ry fy rv fys u' (by simpa using hu'), ?_⟩
    refine ⟨.int (ys.countP fun z => eqV z y : Nat), H, I.tok _, ⟨s.toks, ?_⟩, q⟩
    rw [← countP_eqU rv fys]
end
section
variable {C : Cv} {E : XK}
def MeL (C : Cv) (op : List D → D → Option D) (r : V → List V → Hp → VK → Prop) : Prop := ∀ H α μ x y l d z Q, Stor C H α μ → RpT C.K H (Own α μ) x (.list l) → RpT C.K H (Own α μ) y d → op l d = some z → (∀ v H', Same H H' → Rp C.K H' (Own α μ) v z → Q v H') → r x [y] H Q
theorem ml_index : MeL C lIndex (rIndex C.K) := by
  intro H α μ x y l d z Q S rx ry e q
  unfold lIndex at e
  split at e
  · rename_i h
    cases e1 : l.findIdx? fun z => PyData.eqv z d with
    | none => rw [e1] at e; cases e
    | some j =>
      rw [e1] at e
      cases e
      obtain ⟨hj, h1, h2⟩ := List.findIdx?_eq_some_iff_getElem.mp e1
      obtain ⟨p1, xs, rfl, g1, r1⟩ := rx.list
      have r0 := ry.flat h.1
      have fl : ∀ d ∈ l, flatD d = true := fun d hd => List.all_eq_true.mp h.2 d hd
      obtain ⟨v, hv, rv⟩ := r1.get (List.getElem?_eq_getElem hj)
      refine ⟨p1, xs, y, j, v, rfl, rfl, .inl g1, r0.flat h.1, r1.flat h.2, hv, ?_, fun m z' hm hz' => ?_, q _ H (.refl H) (.int _)⟩
      · rw [rv.eqv r0 (fl _ (List.getElem_mem _)) h.1]
        exact h1
      · have hml : m < l.length := by omega
        obtain ⟨v2, hv2, rv2⟩ := r1.get (List.getElem?_eq_getElem hml)
        rw [hz'] at hv2
        cases hv2
        rw [rv2.eqv r0 (fl _ (List.getElem_mem _)) h.1]
        simpa using h2 m hm
  · cases e
theorem RpAll.countP {K : PySem.W.Frag} {H : Hp} {M : Addr → Prop} {u : V} {e : D} (q : Rp K H M u e) (he : flatD e = true) : ∀ {vs : List V} {ds : List D}, RpAll K H M vs ds → ds.all flatD = true → vs.countP (fun z => eqV z u) = ds.countP fun y => PyData.eqv y e
  | _, _, .nil, _ => rfl
  | _, _, .cons r t, h => by
    rw [List.all_cons, Bool.and_eq_true] at h
    rw [List.countP_cons, List.countP_cons, RpAll.countP q he t h.2, r.eqv q h.1 he]
theorem ml_count : MeL C lCount (rCntF C.K) := by
  intro H α μ x y l d z Q S rx ry e q
  unfold lCount at e
  split at e
  · rename_i h
    cases e
    obtain ⟨p1, xs, rfl, g1, r1⟩ := rx.list
    have r0 := ry.flat h.1
    exact ⟨p1, xs, y, rfl, rfl, .inl g1, r0.flat h.1, r1.flat h.2, by rw [r1.countP r0 h.1 h.2]; exact q _ H (.refl H) (.int _)⟩
  · cases e
theorem rp_rangeV {K : PySem.W.Frag} {H : Hp} {M : Addr → Prop} (a : Int) : ∀ l : List Nat, RpAll K H M (l.map fun i => V.int (a + (i : Nat))) (l.map fun (k : Nat) => PyData.int (a + k))
  | [] => .nil
  | n :: r => .cons (.int _) (rp_rangeV a r)
end
section
variable {X : Cx} {T : List (Addr × Str)} {E : XK} {j : Nat} {pos apos : Pos} {tg a b c : Expr} {f g h : EF}
theorem de_lm {id : String} {name : Str} {op : List D → D → Option D} {r : V → List V → Hp → VK → Prop} {p' : Pos} (slot : Slot "list" name id) (ty : typeOf (.builtin id) = pure (.type "method_descriptor")) (rule : MtR X id r) (hm : MeL (CvX X T) op r) (ha : DE X T E a f) (hb : DE X T E b g)
    (hbase : attributeBase a name X.env (eval a X.env) = eval a X.env := by rfl)
    (hfew : ((backTo pos (starEach [b] X.env)).all (fun x => !x.1) && (backToKw pos (keywordEach [] X.env)).all (fun x => x.1.isSome) && decide ([b].length + ([] : List Keyword).length + (if ([] : List Keyword).isEmpty then 0 else 1) < 30)) = true := by rfl)
    (hline : (p'.endLine == pos.line) = true := by rfl) (hs : starEach [b] X.env = (false, eval b X.env) :: starEach [] X.env := by rfl) (hpl : (backTo pos (starEach [] X.env)).any (·.1) = false := by rfl) :
    DE X T E (.Call (.Attribute a name p') [b] [] pos) (eLm op f g) :=
  pe_imp (pe_bm PySem.F.plainAttrs_list slot ty rule ha (pa_cons hb pa_nil hs) hbase hfew hline hs hpl) fun σ H Q ⟨ρ, α, μ, S, sl, q⟩ =>
    tD_bind S sl q fun v w H1 α1 μ1 st S1 sl1 r1 q1 => by
      split at q1
      · rename_i l
        obtain ⟨p1, xs, rfl, h1, r3⟩ := RpT.list (.inl r1)
        refine ⟨.inl ⟨rfl, xs, .inl h1⟩, ?_⟩
        refine tD_bind S1 sl1 q1 fun v2 w2 H2 α2 μ2 st2 S2 sl2 r2 q2 => ?_
        obtain ⟨z, e, q3⟩ := PQ.ofO q2
        cases e1 : view μ2 w2 with
        | none => rw [e1] at e; cases e
        | some d =>
          simp only [e1, Option.bind_some] at e
          cases e3 : op l d with
          | none => rw [e3] at e; cases e
          | some d2 =>
            rw [e3] at e
            cases e
            have r1' : RpW (CvX X T) H2 α2 μ2 (.ref p1) (.d (.list l)) := r1.step st2
            exact hm H2 α2 μ2 _ _ l d d2 Q S2 (.inl r1') (r2.view S2 e1) e3 fun v H' sm rv => q3 v H' α2 (Same.step S2 sm) (S2.same sm) rv
      · exact (show False from q1).elim
theorem de_index {p' : Pos} (ha : DE X T E a f) (hb : DE X T E b g)
    (hbase : attributeBase a "index" X.env (eval a X.env) = eval a X.env := by rfl)
    (hfew : ((backTo pos (starEach [b] X.env)).all (fun x => !x.1) && (backToKw pos (keywordEach [] X.env)).all (fun x => x.1.isSome) && decide ([b].length + ([] : List Keyword).length + (if ([] : List Keyword).isEmpty then 0 else 1) < 30)) = true := by rfl)
    (hline : (p'.endLine == pos.line) = true := by rfl) (hs : starEach [b] X.env = (false, eval b X.env) :: starEach [] X.env := by rfl) (hpl : (backTo pos (starEach [] X.env)).any (·.1) = false := by rfl) :
    DE X T E (.Call (.Attribute a "index" p') [b] [] pos) (eLm lIndex f g) := de_lm PySem.F.slot_list_index PySem.F.type_list_index mt_index ml_index ha hb hbase hfew hline hs hpl
theorem de_count {p' : Pos} (ha : DE X T E a f) (hb : DE X T E b g)
    (hbase : attributeBase a "count" X.env (eval a X.env) = eval a X.env := by rfl)
    (hfew : ((backTo pos (starEach [b] X.env)).all (fun x => !x.1) && (backToKw pos (keywordEach [] X.env)).all (fun x => x.1.isSome) && decide ([b].length + ([] : List Keyword).length + (if ([] : List Keyword).isEmpty then 0 else 1) < 30)) = true := by rfl)
    (hline : (p'.endLine == pos.line) = true := by rfl) (hs : starEach [b] X.env = (false, eval b X.env) :: starEach [] X.env := by rfl) (hpl : (backTo pos (starEach [] X.env)).any (·.1) = false := by rfl) :
    DE X T E (.Call (.Attribute a "count" p') [b] [] pos) (eLm lCount f g) := de_lm PySem.F.slot_list_count PySem.F.type_list_count mt_countF ml_count ha hb hbase hfew hline hs hpl
theorem lrg_go {H : Hp} {α : Al} {μ : Sto} {Q : VK} {a b : Int} (S : Stor (CvX X T) H α μ) (h1 : -(LIM : Int) ≤ a) (h2 : a ≤ LIM) (h3 : -(LIM : Int) ≤ b) (h4 : b ≤ LIM) (q : PQ (CvX X T) E Q H α μ (.ok (.d (.list (rangeD a b))) μ)) : RgOk a b ∧ ∀ p, H p = none → Q (.ref p) (upd H p (.lst (rgV a b))) := by
  have hL : (LIM : Int) = 1000000 := rfl
  refine ⟨⟨by omega, by omega, by omega, by omega, by omega⟩, fun p np => ?_⟩
  obtain ⟨sm, rp⟩ := rp_newL S np (rp_rangeV (K := (CvX X T).K) (H := H) (M := Own α μ) a (List.range (b - a).toNat))
  exact q _ _ α (Same.step S sm) (S.same sm) rp
theorem de_lrg1 {p p2 q : Pos} (hc : X.calm = true) (ha : DE X T E a f) (hm : X.mg "list" = none) (hm2 : X.mg "range" = none) (hg : Gl X "list" := by rfl) (hg2 : Gl X "range" := by rfl)
    (na : starEach [a] X.env = (false, eval a X.env) :: starEach [] X.env := by rfl)
    (nb : starEach [.Call (.Name "range" p2) [a] [] q] X.env = (false, eval (.Call (.Name "range" p2) [a] [] q) X.env) :: starEach [] X.env := by rfl) : DE X T E (.Call (.Name "list" p) [.Call (.Name "range" p2) [a] [] q] [] pos) (eLRg (iRange1 f)) :=
  pe_imp (pe_listRg hc hg hm (prg_1 hg2 hm2 ha na) nb) fun σ H Q ⟨ρ, α, μ, S, sl, q⟩ => by
    have q : PQ (CvX X T) E Q H α μ ((iRange1 f ρ μ).bind fun l μ1 => .ok (.d (.list l)) μ1) := q
    unfold iRange1 at q
    rw [R.bind_assoc] at q
    refine tD_bind S sl q fun v w H1 α1 μ1 st S1 sl1 r q1 => ?_
    cases w with
    | d d =>
      cases d with
      | int b =>
        dsimp only at q1
        have hv : v = .int b := RpT.int (.inl r)
        by_cases hb : -(LIM : Int) ≤ b ∧ b ≤ LIM
        · rw [if_pos hb] at q1
          exact ⟨b, hv, lrg_go S1 (by decide) (by decide) hb.1 hb.2 q1⟩
        · rw [if_neg hb] at q1
          exact (show False from q1).elim
      | _ => exact (show False from q1).elim
    | _ => exact (show False from q1).elim
theorem de_lrg2 {p p2 q : Pos} (hc : X.calm = true) (ha : DE X T E a f) (hb : DE X T E b g) (hm : X.mg "list" = none) (hm2 : X.mg "range" = none) (hg : Gl X "list" := by rfl) (hg2 : Gl X "range" := by rfl)
    (na : starEach [a, b] X.env = (false, eval a X.env) :: starEach [b] X.env := by rfl) (na2 : starEach [b] X.env = (false, eval b X.env) :: starEach [] X.env := by rfl) (hp : (backTo q (starEach [b] X.env)).any (·.1) = false := by rfl)
    (nb : starEach [.Call (.Name "range" p2) [a, b] [] q] X.env = (false, eval (.Call (.Name "range" p2) [a, b] [] q) X.env) :: starEach [] X.env := by rfl) : DE X T E (.Call (.Name "list" p) [.Call (.Name "range" p2) [a, b] [] q] [] pos) (eLRg (iRange2 f g)) :=
  pe_imp (pe_listRg hc hg hm (prg_2 hg2 hm2 ha hb na na2 hp) nb) fun σ H Q ⟨ρ, α, μ, S, sl, q⟩ => by
    have q : PQ (CvX X T) E Q H α μ ((iRange2 f g ρ μ).bind fun l μ1 => .ok (.d (.list l)) μ1) := q
    unfold iRange2 at q
    rw [R.bind_assoc] at q
    refine tD_bind S sl q fun v w H1 α1 μ1 st S1 sl1 r q1 => ?_
    rw [R.bind_assoc] at q1
    refine tD_bind S1 sl1 q1 fun v2 w2 H2 α2 μ2 st2 S2 sl2 r2 q2 => ?_
    split at q2
    · rename_i i k
      have hv : v = .int i := RpT.int (.inl r)
      have hv2 : v2 = .int k := RpT.int (.inl r2)
      split at q2
      · rename_i hb
        exact ⟨i, k, hv, hv2, lrg_go S2 (by omega) (by omega) (by omega) (by omega) q2⟩
      · exact (show False from q2).elim
    · exact (show False from q2).elim
end
end L3

set_option Elab.async false
set_option linter.all false
set_option maxRecDepth 100000
set_option maxHeartbeats 2000000
/-! From the head's facts to the layer's. -/
namespace L3
open PySem PySem.Spec PyProof.Rows L2 Mi He
section
variable {K : PySem.W.Frag} {mg : Str → Option Value} {h : Heap}
def excCB (K : PySem.W.Frag) (D : Addr) : Bool :=
  eqO (PySem.W.findIn K (.ref D) "__getattribute__") (some (some (.builtin "BaseException.__getattribute__"))) && (eqO (PySem.W.findIn K (.ref D) "__getattr__") (some none) && (decide (PySem.W.subIn K (.ref D) (.type "BaseException") = some true) &&
    (PySem.W.hasDictIn K D && (eqO (PySem.W.findIn K (.ref D) "__class__") (some (some (.builtin "object.__class__"))) && (eqO (PySem.W.specialIn K (.builtin "object.__class__") "__get__") (some (some (.builtin "getset_descriptor.__get__"))) &&
      (decide (PySem.W.takesIn K (.builtin "object.__class__") = some true) && decide (PySem.W.mroIn K D (.type "object") = some true)))))))
theorem excCB_ok {D : Addr} (h : excCB K D = true) : ExcC K D := by
  unfold excCB at h
  simp only [Bool.and_eq_true, decide_eq_true_eq] at h
  obtain ⟨h1, h2, h3, h4, h5, h6, h7, h8⟩ := h
  exact ⟨eqO_ok h1, eqO_ok h2, h3, h4, eqO_ok h5, eqO_ok h6, h7, h8⟩
/-- the row of the own class x -/
def rowB (K : PySem.W.Frag) (x : Str) : Bool := match ownCls.idxOf? x with
  | none => false
  | some i => excCB K (ga K x) && (decide (PySem.W.exmOne K (.ref (ga K x)) (.ref (ga K "WalkError")) = some true) && (decide (PySem.W.kitOne K (.ref (ga K x)) (.type "ValueError") = some (bOf i 16)) &&
      ((List.range 16).all fun j => decide (PySem.W.kitOne K (.ref (ga K x)) (.ref (ga K (ownCls.getD j ""))) = some (bOf i j)))))
theorem rowB_ok {x : Str} (h : rowB K x = true) (hx : mg x = some (.ref (ga K x))) (hW : mg "WalkError" = some (.ref (ga K "WalkError"))) (hg : ∀ y ∈ ownCls, mg y = some (.ref (ga K y))) : ClsRow K mg x := by
  unfold rowB at h
  split at h
  · cases h
  · rename_i i hi
    simp only [Bool.and_eq_true, decide_eq_true_eq, List.all_eq_true] at h
    obtain ⟨h1, h2, h3, h4⟩ := h
    refine ⟨i, ga K x, ga K "WalkError", hi, hx, hW, h2, excCB_ok h1, fun j y A hj hy => ?_, h3⟩
    have e := hg y (List.mem_of_getElem? hj)
    rw [hy] at e
    cases e
    have hlt : j < 16 := (List.getElem?_eq_some_iff.mp hj).1
    have z := h4 j (List.mem_range.mpr hlt)
    rw [show ownCls.getD j "" = y from by rw [List.getD_eq_getElem?_getD, hj]; rfl] at z
    exact z
theorem rpAll_strsV {H : Hp} {M : Addr → Prop} : ∀ ys : List Str, RpAll K H M ((ys.map Dv.str).map (Dv.v K)) (ys.map PyData.str)
  | [] => .nil
  | y :: ys => .cons (.str y) (rpAll_strsV ys)
theorem gtup_ok {x : Str} {ys : List Str} (h : tupB K x (ys.map Dv.str) = true) (hx : mg x = some (.ref (ga K x))) : GTup K mg x (ys.map PyData.str) :=
  ⟨ga K x, _, hx, fun H M => ⟨tupB_ok h H, rpAll_strsV ys⟩⟩
theorem ownEx_ok {x : Str} (c : (Fa.exc x).ok K = true) (hx : mg x = some (.ref (ga K x))) : OwnEx K mg x := by
  obtain ⟨h1, h2, h3, h4⟩ := exc_ok c
  exact ⟨ga K x, hx, h2, h1, h3, h4⟩
/-- no list stands among what is written -/
def noLists (K : PySem.W.Frag) : Bool := K.all fun p => !decide (p.2.cls = .type "list")
theorem noLists_rd (n : noLists K = true) {H : Hp} {a : Addr} {xs : List V} (h : SqL K H a xs) : Rd H a (.lst xs) := by
  rcases h with h | ⟨o, its, m, lk, hc, _⟩
  · exact h
  · have z := List.all_eq_true.mp n (a, o) (He.lookup_mem lk)
    simp [hc] at z
theorem rpAll_intsV {H : Hp} {M : Addr → Prop} (ns : List Int) : RpAll K H M (ns.map V.int) (ns.map PyData.int) := rpAll_ints ns
/-- what a law's statement asks, from the walk of its def and its plain law -/
theorem law_at {l : PySem.W.OpenLaw} {w : World} {fa : Addr} {n k : Nat} {st : Stmt} {g : GF} {fs : List Fa} {fn : List DefD} {ts : List Tab} {ex : PySem.W.Frag → Bool} {fd : FuncData} {kws : List (Str × V)} (X : K.In h) (G : h.Ns mainGlobals mg)
    (c : SaysX fs fn ts [("law", none)] ex w h K) (hm : mg "law" = some (.ref (ga K "law"))) (hfa : mg "law" = some (.ref fa)) (Fu : FunD K "law" "law" (defArgs st) (defBody st) (defScope st) [] kws (ga K "law") fd)
    (hbind : ∀ (kV doc pm : Value) (an : Option Addr) (cdv ct : Value) (us : List Value), us.length = ["script"].length → bindArgs (PySem.W.fnOf "law" "law" (defArgs st) (defBody st) (defScope st) .none kV doc pm an cdv ct) ⟨us, []⟩ = pure ((["script"] : List Str).zip us)) (hn : noLists K = true)
    (Fn : ∀ (base : Heap) (T : List (Addr × Str)), DefL K mg base T "law" st ["script"] fa fd → FnOk l.prog w K mg base (L2N.CX l.prog w) k fa fd ["script"] (spD ⟨K, mg, T⟩ g))
    (pure : ∀ ns : List Int, ns.length ≤ n → (∀ z ∈ ns, Builtin.Int.intBits z ≤ 1048576) → g [.d (.list (ns.map .int))] [] = .ok (.d (.bool true)) []) : LamX.LawAtS l w K (L2N.CX l.prog w) k n "script" mg fa h := by
  have e := hm.symm.trans hfa
  injection e with e
  injection e with e
  subst e
  have hb : Binds K fd ["script"] [] := Fu.bindsN hbind
  have hA := Fu.bindsA (ps := ["script"]) hbind
  obtain ⟨oc, od, dV, kV, doc, pm, an, cdv, ct, osl, rfl, lk, hcdi, _, _⟩ := Fu.ex
  obtain ⟨cc, rfl⟩ := codeIn_ref hcdi
  have hcc : codeOf K ("law", none) = cc := codeOf_eq (p := ("law", none)) lk rfl
  have mem : (("law", none) : Defn) ∈ ([("law", none)] : List Defn) := List.mem_singleton.mpr rfl
  refine ⟨_, [cT K ("law", none)], spD ⟨K, mg, [((cT K ("law", none)).2, qLam "law")]⟩ g, fun p hp => ?_, fun p hp => ?_, fun p hp => ?_, fun s u => hA s [u] rfl, fun H a ns hl hbits hT hS => ?_, fun base KB NB TB => ?_⟩
  · obtain rfl := List.mem_singleton.mp hp; exact c.empty _ mem
  · obtain rfl := List.mem_singleton.mp hp; exact c.out _ mem
  · obtain rfl := List.mem_singleton.mp hp; exact PySem.W.codeHd_of_K X (c.hd _ mem)
  · have no : ∀ b, ¬ Own ⟨[], []⟩ [] b := fun b z => by
      rcases z with ⟨k, c, h1, _⟩ | z
      · cases h1
      · cases z
    refine ⟨[.d (.list (ns.map .int))], ⟨[], []⟩, [], ⟨rfl, List.Pairwise.nil, (fun b hb => by cases hb), (fun k c e => by cases e), fun p hp => ?_⟩, .cons (.lst (noLists_rd hn hS) (no a) (rpAll_ints ns)) .nil, ?_⟩
    · obtain rfl := List.mem_singleton.mp hp
      exact LamX.TabS.nil (hT _ (List.mem_singleton.mpr rfl))
    · rw [pure ns hl hbits]
      intro v H' α' st S r
      cases r
      rfl
  · refine Fn base _ ⟨⟨_, _, Fu⟩, hm, hb, cc, (cT K ("law", none)).2, rfl, ?_, List.mem_singleton.mpr rfl, fun p hp _ => ?_⟩
    · have z := TB _ (List.mem_singleton.mpr rfl)
      rw [show (cT K ("law", none)).1 = cc from hcc] at z
      exact z
    · obtain rfl := List.mem_singleton.mp hp
      rfl
/-- the lambdas of the def x -/
def LamC (K : PySem.W.Frag) (mg : Str → Option Value) (base : Heap) (T : List (Addr × Str)) (x : Str) : Prop := ∃ P, LamX.TabB base mg (codeOf K (x, none)) P ∧ (P, qLam x) ∈ T ∧ ∀ p ∈ T, p.1 = P → p.2 = qLam x
theorem LamC.defL {base : Heap} {T : List (Addr × Str)} {x : Str} {st : Stmt} {ps : List Str} {fd : FuncData} {dvs : List V} {kws : List (Str × V)} (L : LamC K mg base T x) (hm : mg x = some (.ref (ga K x))) (Fu : FunD K x x (defArgs st) (defBody st) (defScope st) dvs kws (ga K x) fd) (hb : Binds K fd ps []) : DefL K mg base T x st ps (ga K x) fd := by
  obtain ⟨P, TB, hT, hu⟩ := L
  obtain ⟨oc, od, dV, kV, doc, pm, an, cdv, ct, osl, rfl, lk, hcdi, _, _⟩ := Fu.ex
  obtain ⟨cc, rfl⟩ := codeIn_ref hcdi
  have hcc : codeOf K (x, none) = cc := codeOf_eq (p := (x, none)) lk rfl
  exact ⟨⟨dvs, kws, Fu⟩, hm, hb, cc, P, rfl, by rw [← hcc]; exact TB, hT, hu⟩
def tabsOf (K : PySem.W.Frag) (ds : List Str) : List (Addr × Str) := ds.map fun x => ((cT K (x, none)).2, qLam x)
/-- the tables of the lambdas are apart -/
def apartB (K : PySem.W.Frag) (ds : List Str) : Bool := (tabsOf K ds).all fun p => (tabsOf K ds).all fun q => !(p.1 == q.1) || p.2 == q.2
theorem lamC_of {base : Heap} {ds : List Str} {x : Str} (hx : x ∈ ds) (ha : apartB K ds = true) (TB : LamX.TabB base mg (codeOf K (x, none)) (cT K (x, none)).2) : LamC K mg base (tabsOf K ds) x := by
  have hm : ((cT K (x, none)).2, qLam x) ∈ tabsOf K ds := List.mem_map.mpr ⟨x, hx, rfl⟩
  refine ⟨_, TB, hm, fun p hp e => ?_⟩
  have z := List.all_eq_true.mp (List.all_eq_true.mp ha p hp) _ hm
  rcases Bool.or_eq_true _ _ ▸ z with z | z
  · rw [e] at z
    simp at z
  · exact eq_of_beq z
/-- what a law's statement asks, from the walk of its def and its plain law; ds: the defs with lambdas -/
theorem law_atL {l : PySem.W.OpenLaw} {w : World} {fa : Addr} {n k : Nat} {st : Stmt} {g : GF} {fs : List Fa} {fn : List DefD} {ts : List Tab} {ds : List Str} {ex : PySem.W.Frag → Bool} {fd : FuncData} {kws : List (Str × V)} (X : K.In h) (G : h.Ns mainGlobals mg)
    (c : SaysX fs fn ts (ds.map fun x => (x, none)) ex w h K) (hm : mg "law" = some (.ref (ga K "law"))) (hfa : mg "law" = some (.ref fa)) (Fu : FunD K "law" "law" (defArgs st) (defBody st) (defScope st) [] kws (ga K "law") fd)
    (hbind : ∀ (kV doc pm : Value) (an : Option Addr) (cdv ct : Value) (us : List Value), us.length = ["script"].length → bindArgs (PySem.W.fnOf "law" "law" (defArgs st) (defBody st) (defScope st) .none kV doc pm an cdv ct) ⟨us, []⟩ = pure ((["script"] : List Str).zip us)) (hn : noLists K = true) (ha : apartB K ds = true)
    (Fn : ∀ (base : Heap), (∀ x ∈ ds, LamC K mg base (tabsOf K ds) x) → Binds K fd ["script"] [] → FnOk l.prog w K mg base (L2N.CX l.prog w) k fa fd ["script"] (spD ⟨K, mg, tabsOf K ds⟩ g))
    (pure : ∀ ns : List Int, ns.length ≤ n → (∀ z ∈ ns, Builtin.Int.intBits z ≤ 1048576) → g [.d (.list (ns.map .int))] [] = .ok (.d (.bool true)) []) : LamX.LawAtS l w K (L2N.CX l.prog w) k n "script" mg fa h := by
  have e := hm.symm.trans hfa
  injection e with e
  injection e with e
  subst e
  have hb : Binds K fd ["script"] [] := Fu.bindsN hbind
  have hA := Fu.bindsA (ps := ["script"]) hbind
  have mem : ∀ p ∈ ds.map (fun x => cT K (x, none)), ∃ x ∈ ds, cT K (x, none) = p ∧ ((x, none) : Defn) ∈ (ds.map fun x => ((x, none) : Defn)) := fun p hp => by
    obtain ⟨x, hx, e⟩ := List.mem_map.mp hp
    exact ⟨x, hx, e, List.mem_map.mpr ⟨x, hx, rfl⟩⟩
  refine ⟨_, ds.map (fun x => cT K (x, none)), spD ⟨K, mg, tabsOf K ds⟩ g, fun p hp => ?_, fun p hp => ?_, fun p hp => ?_, fun s u => hA s [u] rfl, fun H a ns hl hbits hT hS => ?_, fun base KB NB TB => ?_⟩
  · obtain ⟨x, hx, rfl, hm⟩ := mem p hp; exact c.empty _ hm
  · obtain ⟨x, hx, rfl, hm⟩ := mem p hp; exact c.out _ hm
  · obtain ⟨x, hx, rfl, hm⟩ := mem p hp; exact PySem.W.codeHd_of_K X (c.hd _ hm)
  · have no : ∀ b, ¬ Own ⟨[], []⟩ [] b := fun b z => by
      rcases z with ⟨k, c, h1, _⟩ | z
      · cases h1
      · cases z
    refine ⟨[.d (.list (ns.map .int))], ⟨[], []⟩, [], ⟨rfl, List.Pairwise.nil, (fun b hb => by cases hb), (fun k c e => by cases e), fun p hp => ?_⟩, .cons (.lst (noLists_rd hn hS) (no a) (rpAll_ints ns)) .nil, ?_⟩
    · obtain ⟨x, hx, rfl⟩ := List.mem_map.mp (show p ∈ tabsOf K ds from hp)
      exact LamX.TabS.nil (hT _ (List.mem_map.mpr ⟨x, hx, rfl⟩))
    · rw [pure ns hl hbits]
      intro v H' α' st S r
      cases r
      rfl
  · exact Fn base (fun x hx => lamC_of hx ha (TB _ (List.mem_map.mpr ⟨x, hx, rfl⟩))) hb
end
end L3

set_option linter.all false
set_option Elab.async false
/-! The mirrors of the defs (printed by gen.py). -/
namespace Mir
open PySem Mi
/-- the own classes that are raised -/
def clsL : List Str := ["InvalidStatement", "InvalidWorth", "InvalidNumber"]
/-- is_whole: 0 value, 1 low, 2 high -/
def F_is_whole : SF :=
    (sRet (eAnd (eIsi .int (eVar 0)) (eAnd (eNot (eIsi .bool (eVar 0))) (eChain dLe dLe (eVar 1) (eVar 0) (eVar 2)))))
def g_is_whole : GF := fnOf 3 3 F_is_whole
/-- is_end: 0 value -/
def F_is_end : SF :=
    (sRet (eOr (eIsN (eVar 0)) (eCall g_is_whole (aCons (eVar 0) (aCons (eUn dNeg (eInt (1000000000000000000000000000000))) (aCons (eInt (1000000000000000000000000000000)) aNil))))))
def g_is_end : GF := fnOf 1 1 F_is_end
/-- are_ends: 0 low, 1 high -/
def F_are_ends : SF :=
    (sRet (eAnd (eCall g_is_end (aCons (eVar 0) aNil)) (eAnd (eCall g_is_end (aCons (eVar 1) aNil)) (eOr (eIsN (eVar 0)) (eOr (eIsN (eVar 1)) (eOp dLe (eVar 0) (eVar 1)))))))
def g_are_ends : GF := fnOf 2 2 F_are_ends
/-- is_piece: 0 value -/
def F_is_piece : SF :=
    (sSeq (sIf (eOr (eNot (eIsi .tuple (eVar 0))) (eOr (eOp dNe (eBlt bLen (aCons (eVar 0) aNil)) (eInt 4)) (eNot (eCall g_are_ends (aCons (eOp dIx (eVar 0) (eInt 0)) (aCons (eOp dIx (eVar 0) (eInt 1)) aNil)))))) (sRet (eBl false)) sNil)
    (sSeq (sIf (eOr (eNot (eIsi .str (eOp dIx (eVar 0) (eInt 2)))) (eNot (eCall g_is_whole (aCons (eOp dIx (eVar 0) (eInt 3)) (aCons (eUn dNeg (eInt (1000000000000000000000000000000))) (aCons (eInt (1000000000000000000000000000000)) aNil)))))) (sRet (eBl false)) sNil)
    (sRet (eOr (eOp dEq (eOp dIx (eVar 0) (eInt 2)) (eStr "set")) (eAnd (eOp dEq (eOp dIx (eVar 0) (eInt 2)) (eStr "add")) (eOp dNe (eOp dIx (eVar 0) (eInt 3)) (eInt 0)))))))
def g_is_piece : GF := fnOf 1 1 F_is_piece
/-- are_apart: 0 one, 1 other -/
def F_are_apart : SF :=
    (sRet (eAnd (eNotN (eOp dIx (eVar 0) (eInt 1))) (eAnd (eNotN (eOp dIx (eVar 1) (eInt 0))) (eOp dLt (eOp dIx (eVar 0) (eInt 1)) (eOp dIx (eVar 1) (eInt 0))))))
def g_are_apart : GF := fnOf 2 2 F_are_apart
/-- fits_change: 0 value, 1 at, 2 piece -/
def F_fits_change : SF :=
    (sSeq (sIf (eOr (eNot (eIsi .tuple (eVar 0))) (eOr (eNot (eChain dLe dLe (eInt 1) (eBlt bLen (aCons (eVar 0) aNil)) (eInt 4))) (eNot (eBlt bAll (aCons (eLc [2] (tName 2) (iSeq (eVar 0)) eYes (eCall g_is_piece (aCons (eVar 2) aNil))) aNil))))) (sRet (eBl false)) sNil)
    (sRet (eBlt bAll (aCons (eLc [1] (tName 1) (iRange1 (eOp dSub (eBlt bLen (aCons (eVar 0) aNil)) (eInt 1))) eYes (eCall g_are_apart (aCons (eOp dIx (eVar 0) (eVar 1)) (aCons (eOp dIx (eVar 0) (eOp dAdd (eVar 1) (eInt 1))) aNil)))) aNil))))
def g_fits_change : GF := fnOf 1 3 F_fits_change
/-- need_worth: 0 value, 1 low -/
def F_need_worth : SF :=
    (sIf (eNot (eCall g_is_whole (aCons (eVar 0) (aCons (eVar 1) (aCons (eInt (1000000000000000000000000000000)) aNil))))) (sRaise "InvalidWorth") sNil)
def g_need_worth : GF := fnOf 2 2 F_need_worth
def g_need_worth_d : GF := fun ws μ => fnOf 2 2 F_need_worth (ws ++ ([(PyData.int (-1000000000000000000000000000000))] : List PyData).map W.d) μ
/-- need_times: 0 value -/
def F_need_times : SF :=
    (sIf (eNot (eCall g_is_whole (aCons (eVar 0) (aCons (eInt 0) (aCons (eInt (1000000000000000000000000000000)) aNil))))) (sRaise "InvalidNumber") sNil)
def g_need_times : GF := fnOf 1 1 F_need_times
/-- has: 0 piece, 1 worth -/
def F_has : SF :=
    (sRet (eAnd (eOr (eIsN (eOp dIx (eVar 0) (eInt 0))) (eOp dLe (eOp dIx (eVar 0) (eInt 0)) (eVar 1))) (eOr (eIsN (eOp dIx (eVar 0) (eInt 1))) (eOp dLe (eVar 1) (eOp dIx (eVar 0) (eInt 1))))))
def g_has : GF := fnOf 2 2 F_has
/-- piece_of: 0 change, 1 worth, 2 piece -/
def F_piece_of : SF :=
    (sSeq (sFor (tName 2) (iSeq (eVar 0)) (sIf (eCall g_has (aCons (eVar 2) (aCons (eVar 1) aNil))) (sRet (eVar 2)) sNil))
    (sRet eNon))
def g_piece_of : GF := fnOf 2 3 F_piece_of
/-- made: 0 piece, 1 worth -/
def F_made : SF :=
    (sSeq (sIf (eIsN (eVar 0)) (sRet (eVar 1)) sNil)
    (sRet (eIf (eOp dEq (eOp dIx (eVar 0) (eInt 2)) (eStr "add")) (eOp dAdd (eVar 1) (eOp dIx (eVar 0) (eInt 3))) (eOp dIx (eVar 0) (eInt 3)))))
def g_made : GF := fnOf 2 2 F_made
/-- is_walk: 0 value -/
def F_is_walk : SF :=
    (sSeq (sIf (eOr (eNot (eIsi .tuple (eVar 0))) (eOr (eOp dEq (eVar 0) (eTup aNil)) (eOr (eNot (eIsi .str (eOp dIx (eVar 0) (eInt 0)))) (eOp dNotIn (eOp dIx (eVar 0) (eInt 0)) (eC (.tuple [(.str "up"), (.str "down"), (.str "first"), (.str "place")])))))) (sRet (eBl false)) sNil)
    (sSeq (sIf (eOp dIn (eOp dIx (eVar 0) (eInt 0)) (eTup (aCons (eStr "first") (aCons (eStr "place") aNil)))) (sRet (eOp dEq (eBlt bLen (aCons (eVar 0) aNil)) (eInt 1))) sNil)
    (sRet (eAnd (eOp dEq (eBlt bLen (aCons (eVar 0) aNil)) (eInt 3)) (eCall g_are_ends (aCons (eOp dIx (eVar 0) (eInt 1)) (aCons (eOp dIx (eVar 0) (eInt 2)) aNil)))))))
def g_is_walk : GF := fnOf 1 1 F_is_walk
/-- one_way: 0 change, 1 some, 2 piece -/
def F_one_way : SF :=
    (sSeq (sAsg 1 (eLc [2] (tName 2) (iSeq (eVar 0)) (eOp dEq (eOp dIx (eVar 2) (eInt 2)) (eStr "add")) (eOp dGt (eOp dIx (eVar 2) (eInt 3)) (eInt 0))))
    (sRet (eOr (eOp dNotIn (eBl true) (eVar 1)) (eOp dNotIn (eBl false) (eVar 1)))))
def g_one_way : GF := fnOf 1 3 F_one_way
/-- fits_statement: 0 value -/
def F_fits_statement : SF :=
    (sSeq (sIf (eOr (eNot (eIsi .tuple (eVar 0))) (eOr (eOp dNe (eBlt bLen (aCons (eVar 0) aNil)) (eInt 2)) (eOr (eNot (eCall g_fits_change (aCons (eOp dIx (eVar 0) (eInt 0)) aNil))) (eNot (eCall g_is_walk (aCons (eOp dIx (eVar 0) (eInt 1)) aNil)))))) (sRet (eBl false)) sNil)
    (sRet (eOr (eOp dNe (eOp dIx (eOp dIx (eVar 0) (eInt 1)) (eInt 0)) (eStr "place")) (eCall g_one_way (aCons (eOp dIx (eVar 0) (eInt 0)) aNil)))))
def g_fits_statement : GF := fnOf 1 1 F_fits_statement
/-- need_statement: 0 value -/
def F_need_statement : SF :=
    (sIf (eNot (eCall g_fits_statement (aCons (eVar 0) aNil))) (sRaise "InvalidStatement") sNil)
def g_need_statement : GF := fnOf 1 1 F_need_statement
/-- turned_end: 0 end -/
def F_turned_end : SF :=
    (sRet (eIf (eIsN (eVar 0)) eNon (eUn dNeg (eVar 0))))
def g_turned_end : GF := fnOf 1 1 F_turned_end
/-- turned: 0 change, 1 piece -/
def F_turned : SF :=
    (sRet (eBlt bTup (aCons (eLc [1] (tName 1) (iSeq (eUn dRev (eVar 0))) eYes (eTup (aCons (eCall g_turned_end (aCons (eOp dIx (eVar 1) (eInt 1)) aNil)) (aCons (eCall g_turned_end (aCons (eOp dIx (eVar 1) (eInt 0)) aNil)) (aCons (eOp dIx (eVar 1) (eInt 2)) (aCons (eUn dNeg (eOp dIx (eVar 1) (eInt 3))) aNil)))))) aNil)))
def g_turned : GF := fnOf 1 2 F_turned
/-- goes_down: 0 statement, 1 change, 2 walk, 3 piece -/
def F_goes_down : SF :=
    (sSeq (sTgt (Mi.tTup [(tName 1), (tName 2)]) (eVar 0))
    (sSeq (sIf (eOp dEq (eOp dIx (eVar 2) (eInt 0)) (eStr "place")) (sRet (eOp dNe (eLc [3] (tName 3) (iSeq (eVar 1)) (eAnd (eOp dEq (eOp dIx (eVar 3) (eInt 2)) (eStr "add")) (eOp dLt (eOp dIx (eVar 3) (eInt 3)) (eInt 0))) (eVar 3)) (eLst aNil))) sNil)
    (sRet (eOp dEq (eOp dIx (eVar 2) (eInt 0)) (eStr "down")))))
def g_goes_down : GF := fnOf 1 4 F_goes_down
/-- risen: 0 statement, 1 change, 2 walk -/
def F_risen : SF :=
    (sSeq (sIf (eNot (eCall g_goes_down (aCons (eVar 0) aNil))) (sRet (eVar 0)) sNil)
    (sSeq (sTgt (Mi.tTup [(tName 1), (tName 2)]) (eVar 0))
    (sSeq (sIf (eOp dEq (eOp dIx (eVar 2) (eInt 0)) (eStr "place")) (sRet (eTup (aCons (eCall g_turned (aCons (eVar 1) aNil)) (aCons (eVar 2) aNil)))) sNil)
    (sRet (eTup (aCons (eCall g_turned (aCons (eVar 1) aNil)) (aCons (eTup (aCons (eStr "up") (aCons (eCall g_turned_end (aCons (eOp dIx (eVar 2) (eInt 2)) aNil)) (aCons (eCall g_turned_end (aCons (eOp dIx (eVar 2) (eInt 1)) aNil)) aNil)))) aNil)))))))
def g_risen : GF := fnOf 1 3 F_risen
/-- sign_of: 0 statement -/
def F_sign_of : SF :=
    (sRet (eIf (eCall g_goes_down (aCons (eVar 0) aNil)) (eUn dNeg (eInt 1)) (eInt 1)))
def g_sign_of : GF := fnOf 1 1 F_sign_of
/-- in_walk: 0 walk, 1 worth -/
def F_in_walk : SF :=
    (sRet (eOr (eOp dNe (eOp dIx (eVar 0) (eInt 0)) (eStr "up")) (eCall g_has (aCons (eTup (aCons (eOp dIx (eVar 0) (eInt 1)) (aCons (eOp dIx (eVar 0) (eInt 2)) aNil))) (aCons (eVar 1) aNil)))))
def g_in_walk : GF := fnOf 2 2 F_in_walk
/-- again: 0 walk, 1 old, 2 new -/
def F_again : SF :=
    (sSeq (sIf (eOp dEq (eOp dIx (eVar 0) (eInt 0)) (eStr "up")) (sRet (eAnd (eOp dGt (eVar 2) (eVar 1)) (eOr (eIsN (eOp dIx (eVar 0) (eInt 2))) (eOp dLe (eVar 2) (eOp dIx (eVar 0) (eInt 2)))))) sNil)
    (sRet (eOp dEq (eOp dIx (eVar 0) (eInt 0)) (eStr "place"))))
def g_again : GF := fnOf 3 3 F_again
/-- roof_of: 0 piece, 1 walk, 2 some, 3 end -/
def F_roof_of : SF :=
    (sSeq (sAsg 2 (eLc [3] (tName 3) (iSeq (eTup (aCons (eOp dIx (eVar 0) (eInt 1)) (aCons (eIf (eOp dEq (eOp dIx (eVar 1) (eInt 0)) (eStr "up")) (eOp dIx (eVar 1) (eInt 2)) eNon) aNil)))) (eNotN (eVar 3)) (eVar 3)))
    (sRet (eIf (eOp dNe (eVar 2) (eLst aNil)) (eBlt bMin1 (aCons (eVar 2) aNil)) eNon)))
def g_roof_of : GF := fnOf 2 4 F_roof_of
/-- runs_of: 0 statement, 1 worth, 2 change, 3 walk, 4 runs, 5 piece, 6 step, 7 many, 8 roof, 9 run -/
def F_runs_of : SF :=
    (sSeq (sTgt (Mi.tTup [(tName 2), (tName 3)]) (eVar 0))
    (sSeq (sAsg 4 (eLst aNil))
    (sSeq (sWhile 1000000 (eAnd (eCall g_in_walk (aCons (eVar 3) (aCons (eVar 1) aNil))) (eNotN (eCall g_piece_of (aCons (eVar 2) (aCons (eVar 1) aNil))))) (sSeq (sIf (eOp dNe (eLc [9] (tName 9) (iSeq (eVar 4)) (eOp dEq (eOp dIx (eVar 9) (eInt 0)) (eVar 1)) (eVar 9)) (eLst aNil)) (sRet (eOp dAdd (eVar 4) (eLst (aCons (eTup (aCons (eVar 1) (aCons (eInt 0) (aCons (eInt 0) aNil)))) aNil)))) sNil)
    (sSeq (sAsg 5 (eCall g_piece_of (aCons (eVar 2) (aCons (eVar 1) aNil))))
    (sSeq (sAsg 6 (eOp dSub (eCall g_made (aCons (eVar 5) (aCons (eVar 1) aNil))) (eVar 1)))
    (sSeq (sAsg 7 (eInt 1))
    (sSeq (sIf (eAnd (eOp dEq (eOp dIx (eVar 5) (eInt 2)) (eStr "add")) (eAnd (eOp dGt (eVar 6) (eInt 0)) (eOp dNe (eOp dIx (eVar 3) (eInt 0)) (eStr "first")))) (sSeq (sAsg 8 (eCall g_roof_of (aCons (eVar 5) (aCons (eVar 3) aNil))))
    (sAsg 7 (eIf (eIsN (eVar 8)) eNon (eOp dAdd (eOp dDiv (eOp dSub (eVar 8) (eVar 1)) (eVar 6)) (eInt 1))))) sNil)
    (sSeq (sAsg 4 (eOp dAdd (eVar 4) (eLst (aCons (eTup (aCons (eVar 1) (aCons (eVar 7) (aCons (eVar 6) aNil)))) aNil))))
    (sSeq (sIf (eIsN (eVar 7)) (sRet (eVar 4)) sNil)
    (sSeq (sIf (eNot (eCall g_again (aCons (eVar 3) (aCons (eOp dAdd (eVar 1) (eOp dMul (eOp dSub (eVar 7) (eInt 1)) (eVar 6))) (aCons (eOp dAdd (eVar 1) (eOp dMul (eVar 7) (eVar 6))) aNil))))) (sRet (eOp dAdd (eVar 4) (eLst (aCons (eTup (aCons (eOp dAdd (eVar 1) (eOp dMul (eVar 7) (eVar 6))) (aCons (eInt 0) (aCons (eInt 0) aNil)))) aNil)))) sNil)
    (sAsg 1 (eOp dAdd (eVar 1) (eOp dMul (eVar 7) (eVar 6)))))))))))))
    (sRet (eOp dAdd (eVar 4) (eLst (aCons (eTup (aCons (eVar 1) (aCons (eInt 0) (aCons (eInt 0) aNil)))) aNil)))))))
def g_runs_of : GF := fnOf 2 10 F_runs_of
/-- round_at: 0 runs, 1 some, 2 at -/
def F_round_at : SF :=
    (sSeq (sAsg 1 (eLc [2] (tName 2) (iRange1 (eOp dSub (eBlt bLen (aCons (eVar 0) aNil)) (eInt 1))) (eOp dEq (eOp dIx (eOp dIx (eVar 0) (eVar 2)) (eInt 0)) (eOp dIx (eOp dIx (eVar 0) (eUn dNeg (eInt 1))) (eInt 0))) (eVar 2)))
    (sRet (eIf (eAnd (eOp dEq (eOp dIx (eOp dIx (eVar 0) (eUn dNeg (eInt 1))) (eInt 1)) (eInt 0)) (eOp dNe (eVar 1) (eLst aNil))) (eOp dIx (eVar 1) (eInt 0)) eNon)))
def g_round_at : GF := fnOf 1 3 F_round_at
/-- goes_round: 0 statement, 1 runs -/
def F_goes_round : SF :=
    (sRet (eAnd (eOp dEq (eOp dIx (eOp dIx (eVar 0) (eInt 1)) (eInt 0)) (eStr "place")) (eNotN (eCall g_round_at (aCons (eVar 1) aNil)))))
def g_goes_round : GF := fnOf 2 2 F_goes_round
/-- fate_of: 0 statement, 1 worth, 2 runs, 3 run -/
def F_fate_of : SF :=
    (sSeq (sAsg 2 (eCall g_runs_of (aCons (eVar 0) (aCons (eVar 1) aNil))))
    (sSeq (sIf (eOr (eIsN (eOp dIx (eOp dIx (eVar 2) (eUn dNeg (eInt 1))) (eInt 1))) (eCall g_goes_round (aCons (eVar 0) (aCons (eVar 2) aNil)))) (sRet (eTup (aCons eNon (aCons eNon aNil)))) sNil)
    (sRet (eTup (aCons (eBlt bSum (aCons (eLc [3] (tName 3) (iSeq (eVar 2)) eYes (eOp dIx (eVar 3) (eInt 1))) aNil)) (aCons (eOp dIx (eOp dIx (eVar 2) (eUn dNeg (eInt 1))) (eInt 0)) aNil))))))
def g_fate_of : GF := fnOf 2 4 F_fate_of
/-- behind_of: 0 statement, 1 worth, 2 times, 3 runs, 4 at, 5 early, 6 whole, 7 begin, 8 many, 9 step, 10 run -/
def F_behind_of : SF :=
    (sSeq (sAsg 3 (eCall g_runs_of (aCons (eVar 0) (aCons (eVar 1) aNil))))
    (sSeq (sIf (eCall g_goes_round (aCons (eVar 0) (aCons (eVar 3) aNil))) (sSeq (sAsg 4 (eCall g_round_at (aCons (eVar 3) aNil)))
    (sSeq (sAsg 5 (eBlt bSum (aCons (eLc [10] (tName 10) (iSeq (eSl dCut (eVar 3) none (some (eVar 4)))) eYes (eOp dIx (eVar 10) (eInt 1))) aNil)))
    (sSeq (sAsg 6 (eBlt bSum (aCons (eLc [10] (tName 10) (iSeq (eSl dCut (eVar 3) (some (eVar 4)) none)) eYes (eOp dIx (eVar 10) (eInt 1))) aNil)))
    (sAsg 2 (eIf (eOp dLt (eVar 2) (eVar 5)) (eVar 2) (eOp dAdd (eVar 5) (eOp dMod (eOp dSub (eVar 2) (eVar 5)) (eVar 6)))))))) sNil)
    (sSeq (sFor (Mi.tTup [(tName 7), (tName 8), (tName 9)]) (iSeq (eVar 3)) (sSeq (sIf (eOr (eIsN (eVar 8)) (eOp dLe (eVar 2) (eVar 8))) (sRet (eOp dAdd (eVar 7) (eOp dMul (eVar 2) (eVar 9)))) sNil)
    (sAsg 2 (eOp dSub (eVar 2) (eVar 8)))))
    (sRet eNon))))
def g_behind_of : GF := fnOf 3 11 F_behind_of
/-- when_of: 0 statement, 1 worth, 2 goal, 3 done, 4 begin, 5 many, 6 step, 7 gap -/
def F_when_of : SF :=
    (sSeq (sAsg 3 (eInt 0))
    (sSeq (sFor (Mi.tTup [(tName 4), (tName 5), (tName 6)]) (iSeq (eCall g_runs_of (aCons (eVar 0) (aCons (eVar 1) aNil)))) (sSeq (sAsg 7 (eOp dSub (eVar 2) (eVar 4)))
    (sSeq (sIf (eOp dEq (eVar 7) (eInt 0)) (sRet (eVar 3)) sNil)
    (sSeq (sIf (eAnd (eOp dNe (eVar 6) (eInt 0)) (eAnd (eOp dEq (eOp dMod (eVar 7) (eVar 6)) (eInt 0)) (eAnd (eOp dGt (eOp dDiv (eVar 7) (eVar 6)) (eInt 0)) (eOr (eIsN (eVar 5)) (eOp dLe (eOp dDiv (eVar 7) (eVar 6)) (eVar 5)))))) (sRet (eOp dAdd (eVar 3) (eOp dDiv (eVar 7) (eVar 6)))) sNil)
    (sAsg 3 (eOp dAdd (eVar 3) (eIf (eNotN (eVar 5)) (eVar 5) (eInt 0))))))))
    (sRet eNon)))
def g_when_of : GF := fnOf 3 8 F_when_of
/-- fate: 0 statement, 1 worth, 2 sign, 3 times, 4 last -/
def F_fate : SF :=
    (sSeq (sDrop (eCall g_need_statement (aCons (eVar 0) aNil)))
    (sSeq (sDrop (eCall g_need_worth_d (aCons (eVar 1) aNil)))
    (sSeq (sAsg 2 (eCall g_sign_of (aCons (eVar 0) aNil)))
    (sSeq (sTgt (Mi.tTup [(tName 3), (tName 4)]) (eCall g_fate_of (aCons (eCall g_risen (aCons (eVar 0) aNil)) (aCons (eOp dMul (eVar 2) (eVar 1)) aNil))))
    (sRet (eTup (aCons (eVar 3) (aCons (eIf (eIsN (eVar 4)) eNon (eOp dMul (eVar 2) (eVar 4))) aNil))))))))
def g_fate : GF := fnOf 2 5 F_fate
/-- behind: 0 statement, 1 worth, 2 times, 3 found -/
def F_behind : SF :=
    (sSeq (sDrop (eCall g_need_statement (aCons (eVar 0) aNil)))
    (sSeq (sDrop (eCall g_need_worth_d (aCons (eVar 1) aNil)))
    (sSeq (sDrop (eCall g_need_times (aCons (eVar 2) aNil)))
    (sSeq (sAsg 3 (eCall g_behind_of (aCons (eCall g_risen (aCons (eVar 0) aNil)) (aCons (eOp dMul (eCall g_sign_of (aCons (eVar 0) aNil)) (eVar 1)) (aCons (eVar 2) aNil)))))
    (sRet (eIf (eIsN (eVar 3)) eNon (eOp dMul (eCall g_sign_of (aCons (eVar 0) aNil)) (eVar 3))))))))
def g_behind : GF := fnOf 3 4 F_behind
/-- when_at: 0 statement, 1 worth, 2 goal -/
def F_when_at : SF :=
    (sSeq (sDrop (eCall g_need_statement (aCons (eVar 0) aNil)))
    (sSeq (sDrop (eCall g_need_worth_d (aCons (eVar 1) aNil)))
    (sSeq (sDrop (eCall g_need_worth_d (aCons (eVar 2) aNil)))
    (sRet (eCall g_when_of (aCons (eCall g_risen (aCons (eVar 0) aNil)) (aCons (eOp dMul (eCall g_sign_of (aCons (eVar 0) aNil)) (eVar 1)) (aCons (eOp dMul (eCall g_sign_of (aCons (eVar 0) aNil)) (eVar 2)) aNil))))))))
def g_when_at : GF := fnOf 3 3 F_when_at
/-- _law_drum: 0 cell, 1 turn, 2 great -/
def F__law_drum : SF :=
    (sSeq (sAsg 2 (eIf (eOp dGe (eVar 0) (eOp dPow (eInt 10) (eInt 18))) (eOp dAdd (eOp dDiv (eVar 0) (eInt 7)) (eOp dMul (eInt 61) (eVar 1))) (eInt 0)))
    (sRet (eLstM (aCons (eVar 2) (aCons (eOp dAdd (eOp dMod (eBlt bInt (aCons (eOp dAdd (eOp dMul (eVar 0) (eInt 97)) (eOp dMul (eInt 1087) (eVar 1))) aNil)) (eInt 2077504273)) (eInt 71)) aNil)))))
def g__law_drum : GF := fnOf 2 3 F__law_drum
/-- _law_roll: 0 drum, 1 many, 2 found, 3 deep -/
def F__law_roll : SF :=
    (sSeq (sIf (eOp dGt (eOp dIx (eVar 0) (eInt 0)) (eInt 0)) (sSeq (sAsg 2 (eOp dMod (eBlt bInt (aCons (eOp dIx (eVar 0) (eInt 0)) aNil)) (eVar 1)))
    (sSeq (sSub (eVar 0) (eInt 0) (eOp dDiv (eOp dIx (eVar 0) (eInt 0)) (eVar 1)))
    (sRet (eVar 2)))) sNil)
    (sSeq (sSub (eVar 0) (eInt 1) (eOp dMod (eBlt bInt (aCons (eOp dAdd (eOp dMul (eOp dIx (eVar 0) (eInt 1)) (eInt 30671)) (eInt 8807)) aNil)) (eInt 2147483549)))
    (sSeq (sAsg 3 (eOp dMod (eBlt bInt (aCons (eOp dMul (eOp dIx (eVar 0) (eInt 1)) (eOp dAdd (eOp dIx (eVar 0) (eInt 1)) (eInt 101))) aNil)) (eInt 2147483587)))
    (sRet (eOp dMod (eBlt bInt (aCons (eOp dDiv (eVar 3) (eInt 613)) aNil)) (eVar 1))))))
def g__law_roll : GF := fnOf 2 4 F__law_roll
/-- _law_some: 0 drum, 1 things -/
def F__law_some : SF :=
    (sRet (eOp dIx (eVar 1) (eCall g__law_roll (aCons (eVar 0) (aCons (eBlt bLen (aCons (eVar 1) aNil)) aNil)))))
def g__law_some : GF := fnOf 2 2 F__law_some
/-- _law_change: 0 drum, 1 most, 2 pieces, 3 low, 4 turn, 5 high, 6 word, 7 by -/
def F__law_change : SF :=
    (sSeq (sPar 2 3 (eLstM aNil) (eOp dAdd (eUn dNeg (eInt 20)) (eCall g__law_roll (aCons (eVar 0) (aCons (eInt 8) aNil)))))
    (sSeq (sFor (tName 4) (iRange1 (eOp dAdd (eInt 1) (eCall g__law_roll (aCons (eVar 0) (aCons (eInt 3) aNil))))) (sSeq (sAsg 5 (eOp dAdd (eVar 3) (eCall g__law_some (aCons (eVar 0) (aCons (eLst (aCons (eInt 0) (aCons (eInt 2) (aCons (eInt 5) (aCons (eInt 9) (aCons (eInt 14) aNil)))))) aNil)))))
    (sSeq (sAsg 6 (eCall g__law_some (aCons (eVar 0) (aCons (eLst (aCons (eStr "add") (aCons (eStr "add") (aCons (eStr "add") (aCons (eStr "set") aNil))))) aNil))))
    (sSeq (sAsg 7 (eIf (eOp dEq (eVar 6) (eStr "add")) (eOp dMul (eCall g__law_some (aCons (eVar 0) (aCons (eLst (aCons (eUn dNeg (eInt 1)) (aCons (eInt 1) (aCons (eInt 1) aNil)))) aNil))) (eOp dAdd (eInt 1) (eCall g__law_roll (aCons (eVar 0) (aCons (eVar 1) aNil))))) (eOp dAdd (eUn dNeg (eInt 22)) (eCall g__law_roll (aCons (eVar 0) (aCons (eInt 64) aNil))))))
    (sSeq (sDrop (eApp (eVar 2) (eTup (aCons (eVar 3) (aCons (eVar 5) (aCons (eVar 6) (aCons (eVar 7) aNil)))))))
    (sAsg 3 (eOp dAdd (eOp dAdd (eVar 5) (eInt 1)) (eCall g__law_some (aCons (eVar 0) (aCons (eLst (aCons (eInt 0) (aCons (eInt 0) (aCons (eInt 1) (aCons (eInt 4) aNil))))) aNil))))))))))
    (sSeq (sIf (eOp dEq (eCall g__law_roll (aCons (eVar 0) (aCons (eInt 6) aNil))) (eInt 0)) (sSub (eVar 2) (eInt 0) (eOp dAdd (eTup (aCons eNon aNil)) (eSl dCut (eOp dIx (eVar 2) (eInt 0)) (some (eInt 1)) none))) sNil)
    (sSeq (sIf (eOp dEq (eCall g__law_roll (aCons (eVar 0) (aCons (eInt 6) aNil))) (eInt 0)) (sSub (eVar 2) (eUn dNeg (eInt 1)) (eOp dAdd (eTup (aCons (eOp dIx (eOp dIx (eVar 2) (eUn dNeg (eInt 1))) (eInt 0)) (aCons eNon aNil))) (eSl dCut (eOp dIx (eVar 2) (eUn dNeg (eInt 1))) (some (eInt 2)) none))) sNil)
    (sRet (eBlt bTup (aCons (eVar 2) aNil)))))))
def g__law_change : GF := fnOf 2 8 F__law_change
/-- _law_one_way: 0 change_so, 1 piece -/
def F__law_one_way : SF :=
    (sRet (eBlt bTup (aCons (eLc [1] (tName 1) (iSeq (eVar 0)) eYes (eOp dAdd (eSl dCut (eVar 1) none (some (eInt 3))) (eTup (aCons (eIf (eOp dEq (eOp dIx (eVar 1) (eInt 2)) (eStr "add")) (eBlt bAbs (aCons (eOp dIx (eVar 1) (eInt 3)) aNil)) (eOp dIx (eVar 1) (eInt 3))) aNil)))) aNil)))
def g__law_one_way : GF := fnOf 1 2 F__law_one_way
/-- _law_statement: 0 drum, 1 most, 2 change_so, 3 word, 4 low, 5 high, 6 one -/
def F__law_statement : SF :=
    (sSeq (sPar 2 3 (eCall g__law_change (aCons (eVar 0) (aCons (eVar 1) aNil))) (eCall g__law_some (aCons (eVar 0) (aCons (eLst (aCons (eStr "up") (aCons (eStr "up") (aCons (eStr "down") (aCons (eStr "down") (aCons (eStr "place") (aCons (eStr "first") aNil))))))) aNil))))
    (sSeq (sIf (eOp dEq (eVar 3) (eStr "first")) (sRet (eTup (aCons (eVar 2) (aCons (eTup (aCons (eStr "first") aNil)) aNil)))) sNil)
    (sSeq (sIf (eOp dEq (eVar 3) (eStr "place")) (sSeq (sAsg 2 (eCall g__law_one_way (aCons (eVar 2) aNil)))
    (sSeq (sIf (eOp dEq (eCall g__law_roll (aCons (eVar 0) (aCons (eInt 3) aNil))) (eInt 0)) (sAsg 2 (eBlt bTup (aCons (eLc [6] (tName 6) (iSeq (eVar 2)) eYes (eOp dAdd (eSl dCut (eVar 6) none (some (eInt 3))) (eTup (aCons (eIf (eOp dEq (eOp dIx (eVar 6) (eInt 2)) (eStr "add")) (eUn dNeg (eOp dIx (eVar 6) (eInt 3))) (eOp dIx (eVar 6) (eInt 3))) aNil)))) aNil))) sNil)
    (sRet (eTup (aCons (eVar 2) (aCons (eTup (aCons (eStr "place") aNil)) aNil)))))) sNil)
    (sSeq (sTgt (tUnl [(tName 4), (tName 5)]) (eBlt bSorted (aCons (eLst (aCons (eOp dAdd (eUn dNeg (eInt 22)) (eCall g__law_roll (aCons (eVar 0) (aCons (eInt 60) aNil)))) (aCons (eOp dAdd (eUn dNeg (eInt 22)) (eCall g__law_roll (aCons (eVar 0) (aCons (eInt 60) aNil)))) aNil))) aNil)))
    (sSeq (sAsg 4 (eIf (eOp dGt (eCall g__law_roll (aCons (eVar 0) (aCons (eInt 3) aNil))) (eInt 0)) eNon (eVar 4)))
    (sRet (eTup (aCons (eVar 2) (aCons (eTup (aCons (eVar 3) (aCons (eVar 4) (aCons (eIf (eOp dGt (eCall g__law_roll (aCons (eVar 0) (aCons (eInt 3) aNil))) (eInt 0)) eNon (eVar 5)) aNil)))) aNil)))))))))
def g__law_statement : GF := fnOf 2 7 F__law_statement
/-- _law_has: 0 low, 1 high, 2 worth -/
def F__law_has : SF :=
    (sRet (eAnd (eOr (eIsN (eVar 0)) (eOp dLe (eVar 0) (eVar 2))) (eOr (eIsN (eVar 1)) (eOp dLe (eVar 2) (eVar 1)))))
def g__law_has : GF := fnOf 3 3 F__law_has
/-- _law_piece: 0 change_so, 1 worth, 2 piece -/
def F__law_piece : SF :=
    (sSeq (sFor (tName 2) (iSeq (eVar 0)) (sIf (eCall g__law_has (aCons (eOp dIx (eVar 2) (eInt 0)) (aCons (eOp dIx (eVar 2) (eInt 1)) (aCons (eVar 1) aNil)))) (sRet (eVar 2)) sNil))
    (sRet eNon))
def g__law_piece : GF := fnOf 2 3 F__law_piece
/-- _law_changed: 0 change_so, 1 worth, 2 piece -/
def F__law_changed : SF :=
    (sSeq (sAsg 2 (eCall g__law_piece (aCons (eVar 0) (aCons (eVar 1) aNil))))
    (sSeq (sIf (eIsN (eVar 2)) (sRet (eVar 1)) sNil)
    (sRet (eIf (eOp dEq (eOp dIx (eVar 2) (eInt 2)) (eStr "add")) (eOp dAdd (eVar 1) (eOp dIx (eVar 2) (eInt 3))) (eOp dIx (eVar 2) (eInt 3))))))
def g__law_changed : GF := fnOf 2 3 F__law_changed
/-- _law_path: 0 one, 1 worth, 2 change_so, 3 walk, 4 path, 5 old, 6 new -/
def F__law_path : SF :=
    (sSeq (sTgt (Mi.tTup [(tName 2), (tName 3)]) (eVar 0))
    (sSeq (sAsg 4 (eLstM (aCons (eVar 1) aNil)))
    (sSeq (sWhile 1000000 (eOp dLt (eBlt bLen (aCons (eVar 4) aNil)) (eInt 300)) (sSeq (sAsg 5 (eOp dIx (eVar 4) (eUn dNeg (eInt 1))))
    (sSeq (sIf (eOr (eIsN (eCall g__law_piece (aCons (eVar 2) (aCons (eVar 5) aNil)))) (eAnd (eOp dEq (eBlt bLen (aCons (eVar 3) aNil)) (eInt 3)) (eNot (eCall g__law_has (aCons (eOp dIx (eVar 3) (eInt 1)) (aCons (eOp dIx (eVar 3) (eInt 2)) (aCons (eVar 5) aNil))))))) (sRetF (eVar 4)) sNil)
    (sSeq (sAsg 6 (eCall g__law_changed (aCons (eVar 2) (aCons (eVar 5) aNil))))
    (sSeq (sDrop (eApp (eVar 4) (eVar 6)))
    (sIf (eOr (eOp dEq (eOp dIx (eVar 3) (eInt 0)) (eStr "first")) (eOr (eAnd (eOp dEq (eOp dIx (eVar 3) (eInt 0)) (eStr "up")) (eOp dLe (eVar 6) (eVar 5))) (eAnd (eOp dEq (eOp dIx (eVar 3) (eInt 0)) (eStr "down")) (eOp dGe (eVar 6) (eVar 5))))) (sRetF (eVar 4)) sNil))))))
    (sRetF (eVar 4)))))
def g__law_path : GF := fnOf 2 7 F__law_path
/-- _law_fate: 0 one, 1 worth, 2 path -/
def F__law_fate : SF :=
    (sSeq (sAsg 2 (eCall g__law_path (aCons (eVar 0) (aCons (eVar 1) aNil))))
    (sRet (eIf (eOp dEq (eBlt bLen (aCons (eVar 2) aNil)) (eInt 300)) (eTup (aCons eNon (aCons eNon aNil))) (eTup (aCons (eOp dSub (eBlt bLen (aCons (eVar 2) aNil)) (eInt 1)) (aCons (eOp dIx (eVar 2) (eUn dNeg (eInt 1))) aNil))))))
def g__law_fate : GF := fnOf 2 3 F__law_fate
/-- _law_scaled: 0 one, 1 scale, 2 more, 3 change_so, 4 walk, 5 rest, 6 pieces, 7 low, 8 high, 9 word, 10 by -/
def F__law_scaled : SF :=
    (sSeq (sTgt (Mi.tTup [(tName 3), (tName 4)]) (eVar 0))
    (sSeq (sAsg 5 (eIf (eOp dEq (eOp dIx (eVar 4) (eInt 0)) (eStr "down")) (eOp dSub (eVar 1) (eInt 1)) (eInt 0)))
    (sSeq (sAsg 6 (eLstM aNil))
    (sSeq (sFor (Mi.tTup [(tName 7), (tName 8), (tName 9), (tName 10)]) (iSeq (eVar 3)) (sSeq (sAsg 7 (eIf (eIsN (eVar 7)) eNon (eOp dAdd (eOp dMul (eVar 7) (eVar 1)) (eVar 2))))
    (sSeq (sAsg 8 (eIf (eIsN (eVar 8)) eNon (eOp dAdd (eOp dSub (eOp dAdd (eOp dMul (eVar 8) (eVar 1)) (eVar 1)) (eInt 1)) (eVar 2))))
    (sDrop (eApp (eVar 6) (eTup (aCons (eVar 7) (aCons (eVar 8) (aCons (eVar 9) (aCons (eIf (eOp dEq (eVar 9) (eStr "add")) (eOp dMul (eVar 10) (eVar 1)) (eOp dAdd (eOp dAdd (eOp dMul (eVar 10) (eVar 1)) (eVar 5)) (eVar 2))) aNil))))))))))
    (sSeq (sIf (eOp dEq (eBlt bLen (aCons (eVar 4) aNil)) (eInt 1)) (sRet (eTup (aCons (eBlt bTup (aCons (eVar 6) aNil)) (aCons (eVar 4) aNil)))) sNil)
    (sSeq (sAsg 7 (eIf (eIsN (eOp dIx (eVar 4) (eInt 1))) eNon (eOp dAdd (eOp dMul (eOp dIx (eVar 4) (eInt 1)) (eVar 1)) (eVar 2))))
    (sRet (eTup (aCons (eBlt bTup (aCons (eVar 6) aNil)) (aCons (eTup (aCons (eOp dIx (eVar 4) (eInt 0)) (aCons (eVar 7) (aCons (eIf (eIsN (eOp dIx (eVar 4) (eInt 2))) eNon (eOp dAdd (eOp dSub (eOp dAdd (eOp dMul (eOp dIx (eVar 4) (eInt 2)) (eVar 1)) (eVar 1)) (eInt 1)) (eVar 2))) aNil)))) aNil))))))))))
def g__law_scaled : GF := fnOf 3 11 F__law_scaled
/-- _law_far_right: 0 one, 1 worth, 2 scale, 3 more, 4 rest, 5 far, 6 begin, 7 path, 8 times, 9 last, 10 step, 11 found -/
def F__law_far_right : SF :=
    (sSeq (sAsg 5 (eCall g__law_scaled (aCons (eVar 0) (aCons (eVar 2) (aCons (eVar 3) aNil)))))
    (sSeq (sPar 6 7 (eOp dAdd (eOp dAdd (eOp dMul (eVar 1) (eVar 2)) (eVar 4)) (eVar 3)) (eCall g__law_path (aCons (eVar 0) (aCons (eVar 1) aNil))))
    (sSeq (sTgt (Mi.tTup [(tName 8), (tName 9)]) (eCall g_fate (aCons (eVar 5) (aCons (eVar 6) aNil))))
    (sSeq (sIf (eOp dNe (eVar 8) (eOp dIx (eCall g__law_fate (aCons (eVar 0) (aCons (eVar 1) aNil))) (eInt 0))) (sRet (eBl false)) sNil)
    (sSeq (sIf (eAnd (eNotN (eVar 8)) (eOp dNe (eOp dDiv (eOp dSub (eVar 9) (eVar 3)) (eVar 2)) (eOp dIx (eVar 7) (eUn dNeg (eInt 1))))) (sRet (eBl false)) sNil)
    (sSeq (sFor (tName 10) (iRange1 (eBlt bMin2 (aCons (eInt 6) (aCons (eBlt bLen (aCons (eVar 7) aNil)) aNil)))) (sSeq (sAsg 11 (eCall g_behind (aCons (eVar 5) (aCons (eVar 6) (aCons (eVar 10) aNil)))))
    (sIf (eOr (eIsN (eVar 11)) (eOr (eOp dNe (eOp dDiv (eOp dSub (eVar 11) (eVar 3)) (eVar 2)) (eOp dIx (eVar 7) (eVar 10))) (eAnd (eOp dGt (eVar 10) (eInt 0)) (eIsN (eCall g_when_at (aCons (eVar 5) (aCons (eVar 6) (aCons (eVar 11) aNil)))))))) (sRet (eBl false)) sNil)))
    (sRet (eBl true))))))))
def g__law_far_right : GF := fnOf 5 12 F__law_far_right
/-- _law_single: 0 low, 1 high, 2 step, 3 worth, 4 many -/
def F__law_single : SF :=
    (sSeq (sIf (eOr (eOp dLt (eVar 3) (eVar 0)) (eOp dGt (eVar 3) (eVar 1))) (sRet (eTup (aCons (eInt 0) (aCons (eVar 3) aNil)))) sNil)
    (sSeq (sAsg 4 (eOp dAdd (eOp dDiv (eOp dSub (eVar 1) (eVar 3)) (eVar 2)) (eInt 1)))
    (sRet (eTup (aCons (eVar 4) (aCons (eOp dAdd (eVar 3) (eOp dMul (eVar 4) (eVar 2))) aNil))))))
def g__law_single : GF := fnOf 4 5 F__law_single
/-- law: 0 script, 1 cell, 2 drum, 3 turn, 4 one, 5 scale, 6 more, 7 part, 8 worth, 9 low, 10 width, 11 step, 12 change_so, 13 due -/
def F_law : SF :=
    (sSeq (sFor (tName 1) (iSeq (eSl dCut (eOp dAdd (eLst (aCons (eInt 0) aNil)) (eVar 0)) none (some (eInt 8)))) (sSeq (sAsg 2 (eCall g__law_drum (aCons (eVar 1) (aCons (eInt 17) aNil))))
    (sSeq (sFor (tName 3) (iRange1 (eInt 3)) (sSeq (sAsg 4 (eCall g__law_statement (aCons (eVar 2) (aCons (eInt 7) aNil))))
    (sSeq (sAsg 5 (eOp dAdd (eInt 1) (eOp dMul (eCall g__law_roll (aCons (eVar 2) (aCons (eOp dPow (eInt 10) (eInt 9)) aNil))) (eCall g__law_some (aCons (eVar 2) (aCons (eLst (aCons (eInt 1) (aCons (eOp dPow (eInt 10) (eInt 8)) (aCons (eOp dPow (eInt 10) (eInt 18)) aNil)))) aNil))))))
    (sSeq (sAsg 6 (eOp dMul (eOp dSub (eCall g__law_roll (aCons (eVar 2) (aCons (eOp dPow (eInt 10) (eInt 9)) aNil))) (eOp dMul (eInt 5) (eOp dPow (eInt 10) (eInt 8)))) (eCall g__law_some (aCons (eVar 2) (aCons (eLst (aCons (eInt 1) (aCons (eOp dPow (eInt 10) (eInt 10)) (aCons (eOp dPow (eInt 10) (eInt 20)) aNil)))) aNil)))))
    (sFor (tName 7) (iRange1 (eInt 6)) (sSeq (sAsg 8 (eOp dSub (eCall g__law_roll (aCons (eVar 2) (aCons (eInt 66) aNil))) (eInt 22)))
    (sIf (eNot (eCall g__law_far_right (aCons (eVar 4) (aCons (eVar 8) (aCons (eVar 5) (aCons (eVar 6) (aCons (eCall g__law_roll (aCons (eVar 2) (aCons (eVar 5) aNil))) aNil))))))) (sRet (eBl false)) sNil)))))))
    (sSeq (sPar 9 10 (eOp dMul (eCall g__law_roll (aCons (eVar 2) (aCons (eOp dPow (eInt 10) (eInt 9)) aNil))) (eOp dPow (eInt 10) (eInt 15))) (eOp dAdd (eOp dMul (eCall g__law_roll (aCons (eVar 2) (aCons (eOp dPow (eInt 10) (eInt 9)) aNil))) (eOp dPow (eInt 10) (eInt 19))) (eCall g__law_roll (aCons (eVar 2) (aCons (eOp dPow (eInt 10) (eInt 9)) aNil)))))
    (sSeq (sAsg 11 (eOp dAdd (eInt 1) (eOp dMul (eCall g__law_roll (aCons (eVar 2) (aCons (eOp dPow (eInt 10) (eInt 9)) aNil))) (eCall g__law_some (aCons (eVar 2) (aCons (eLst (aCons (eInt 1) (aCons (eOp dPow (eInt 10) (eInt 5)) (aCons (eOp dPow (eInt 10) (eInt 12)) aNil)))) aNil))))))
    (sFor (tName 8) (iSeq (eTup (aCons (eOp dSub (eVar 9) (eInt 1)) (aCons (eVar 9) (aCons (eOp dAdd (eVar 9) (eOp dDiv (eVar 10) (eInt 3))) (aCons (eOp dAdd (eVar 9) (eVar 10)) (aCons (eOp dAdd (eOp dAdd (eVar 9) (eVar 10)) (eInt 1)) aNil))))))) (sSeq (sAsg 12 (eTup (aCons (eTup (aCons (eVar 9) (aCons (eOp dAdd (eVar 9) (eVar 10)) (aCons (eStr "add") (aCons (eVar 11) aNil))))) aNil)))
    (sSeq (sAsg 13 (eCall g__law_single (aCons (eVar 9) (aCons (eOp dAdd (eVar 9) (eVar 10)) (aCons (eVar 11) (aCons (eVar 8) aNil))))))
    (sSeq (sIf (eOr (eOp dNe (eCall g_fate (aCons (eTup (aCons (eVar 12) (aCons (eTup (aCons (eStr "up") (aCons eNon (aCons eNon aNil)))) aNil))) (aCons (eVar 8) aNil))) (eVar 13)) (eOp dNe (eCall g_fate (aCons (eTup (aCons (eVar 12) (aCons (eTup (aCons (eStr "place") aNil)) aNil))) (aCons (eVar 8) aNil))) (eVar 13))) (sRet (eBl false)) sNil)
    (sSeq (sIf (eOp dNe (eCall g_fate (aCons (eTup (aCons (eVar 12) (aCons (eTup (aCons (eStr "first") aNil)) aNil))) (aCons (eVar 8) aNil))) (eTup (aCons (eBlt bMin2 (aCons (eInt 1) (aCons (eOp dIx (eVar 13) (eInt 0)) aNil))) (aCons (eOp dAdd (eVar 8) (eOp dMul (eBlt bMin2 (aCons (eInt 1) (aCons (eOp dIx (eVar 13) (eInt 0)) aNil))) (eVar 11))) aNil)))) (sRet (eBl false)) sNil)
    (sIf (eAnd (eOp dGt (eOp dIx (eVar 13) (eInt 0)) (eInt 2)) (eOp dNe (eCall g_behind (aCons (eTup (aCons (eVar 12) (aCons (eTup (aCons (eStr "place") aNil)) aNil))) (aCons (eVar 8) (aCons (eOp dDiv (eOp dIx (eVar 13) (eInt 0)) (eInt 2)) aNil)))) (eOp dAdd (eVar 8) (eOp dMul (eOp dDiv (eOp dIx (eVar 13) (eInt 0)) (eInt 2)) (eVar 11))))) (sRet (eBl false)) sNil)))))))))))
    (sSeq (sAsg 13 (eTup (aCons (eInt 142857142857142857142857142858) (aCons (eOp dAdd (eOp dPow (eInt 10) (eInt 30)) (eInt 6)) aNil))))
    (sRet (eOp dEq (eCall g_fate (aCons (eTup (aCons (eTup (aCons (eTup (aCons eNon (aCons (eOp dPow (eInt 10) (eInt 30)) (aCons (eStr "add") (aCons (eInt 7) aNil))))) aNil)) (aCons (eTup (aCons (eStr "up") (aCons eNon (aCons eNon aNil)))) aNil))) (aCons (eInt 0) aNil))) (eVar 13)))))
def g_law : GF := fnOf 1 14 F_law
end Mir

set_option linter.all false
set_option Elab.async false
set_option maxRecDepth 100000
set_option maxHeartbeats 4000000
/-! The walks of the defs (printed by gen.py). -/
namespace Wlk
open PySem PySem.Spec PyProof.Rows L2 Mi L3 Mir
def topS (i : Nat) : Stmt := PySem.Challenge.pw_metagain_k05_whole_fates_of_thirty_figur.main.body.getD i (.Pass ⟨0, 0, 0, 0⟩)
structure Txt (K : PySem.W.Frag) (mg : Str → Option Value) : Prop where
  d_is_whole : DefFact K mg "is_whole" (topS 7) ["value", "low", "high"]
  d_is_end : DefFact K mg "is_end" (topS 8) ["value"]
  d_are_ends : DefFact K mg "are_ends" (topS 9) ["low", "high"]
  d_is_piece : DefFact K mg "is_piece" (topS 10) ["value"]
  d_are_apart : DefFact K mg "are_apart" (topS 11) ["one", "other"]
  d_fits_change : DefFact K mg "fits_change" (topS 12) ["value"]
  d_need_worth : DefFact K mg "need_worth" (topS 13) ["value", "low"]
  d_need_times : DefFact K mg "need_times" (topS 14) ["value"]
  d_has : DefFact K mg "has" (topS 15) ["piece", "worth"]
  d_piece_of : DefFact K mg "piece_of" (topS 16) ["change", "worth"]
  d_made : DefFact K mg "made" (topS 17) ["piece", "worth"]
  d_is_walk : DefFact K mg "is_walk" (topS 20) ["value"]
  d_one_way : DefFact K mg "one_way" (topS 21) ["change"]
  d_fits_statement : DefFact K mg "fits_statement" (topS 22) ["value"]
  d_need_statement : DefFact K mg "need_statement" (topS 23) ["value"]
  d_turned_end : DefFact K mg "turned_end" (topS 24) ["end"]
  d_turned : DefFact K mg "turned" (topS 25) ["change"]
  d_goes_down : DefFact K mg "goes_down" (topS 26) ["statement"]
  d_risen : DefFact K mg "risen" (topS 27) ["statement"]
  d_sign_of : DefFact K mg "sign_of" (topS 28) ["statement"]
  d_in_walk : DefFact K mg "in_walk" (topS 29) ["walk", "worth"]
  d_again : DefFact K mg "again" (topS 30) ["walk", "old", "new"]
  d_roof_of : DefFact K mg "roof_of" (topS 31) ["piece", "walk"]
  d_runs_of : DefFact K mg "runs_of" (topS 32) ["statement", "worth"]
  d_round_at : DefFact K mg "round_at" (topS 33) ["runs"]
  d_goes_round : DefFact K mg "goes_round" (topS 34) ["statement", "runs"]
  d_fate_of : DefFact K mg "fate_of" (topS 35) ["statement", "worth"]
  d_behind_of : DefFact K mg "behind_of" (topS 36) ["statement", "worth", "times"]
  d_when_of : DefFact K mg "when_of" (topS 37) ["statement", "worth", "goal"]
  d_fate : DefFact K mg "fate" (topS 38) ["statement", "worth"]
  d_behind : DefFact K mg "behind" (topS 39) ["statement", "worth", "times"]
  d_when_at : DefFact K mg "when_at" (topS 40) ["statement", "worth", "goal"]
  d__law_drum : DefFact K mg "_law_drum" (topS 42) ["cell", "turn"]
  d__law_roll : DefFact K mg "_law_roll" (topS 43) ["drum", "many"]
  d__law_some : DefFact K mg "_law_some" (topS 44) ["drum", "things"]
  d__law_change : DefFact K mg "_law_change" (topS 45) ["drum", "most"]
  d__law_one_way : DefFact K mg "_law_one_way" (topS 46) ["change_so"]
  d__law_statement : DefFact K mg "_law_statement" (topS 47) ["drum", "most"]
  d__law_has : DefFact K mg "_law_has" (topS 48) ["low", "high", "worth"]
  d__law_piece : DefFact K mg "_law_piece" (topS 49) ["change_so", "worth"]
  d__law_changed : DefFact K mg "_law_changed" (topS 50) ["change_so", "worth"]
  d__law_path : DefFact K mg "_law_path" (topS 51) ["one", "worth"]
  d__law_fate : DefFact K mg "_law_fate" (topS 52) ["one", "worth"]
  d__law_scaled : DefFact K mg "_law_scaled" (topS 53) ["one", "scale", "more"]
  d__law_far_right : DefFact K mg "_law_far_right" (topS 54) ["one", "worth", "scale", "more", "rest"]
  d__law_single : DefFact K mg "_law_single" (topS 55) ["low", "high", "step", "worth"]
  e_need_worth : DefFact1 K mg "need_worth" (topS 13) ["value", "low"] [(.int (-1000000000000000000000000000000))]
  z_abs : mg "abs" = none
  z_all : mg "all" = none
  z_bool : mg "bool" = none
  z_int : mg "int" = none
  z_isinstance : mg "isinstance" = none
  z_len : mg "len" = none
  z_min : mg "min" = none
  z_range : mg "range" = none
  z_sorted : mg "sorted" = none
  z_str : mg "str" = none
  z_sum : mg "sum" = none
  z_tuple : mg "tuple" = none
  c_FAR : ∃ tk, mg "FAR" = some (.int (1000000000000000000000000000000) tk)
  c_WALKS : GTup K mg "WALKS" [(.str "up"), (.str "down"), (.str "first"), (.str "place")]
  x_InvalidStatement : OwnEx K mg "InvalidStatement"
  x_InvalidWorth : OwnEx K mg "InvalidWorth"
  x_InvalidNumber : OwnEx K mg "InvalidNumber"
structure LTxt (K : PySem.W.Frag) (mg : Str → Option Value) (base : Heap) (T : List (Addr × Str)) : Prop where
  l_none : True
section
variable {P : Program} {w : World} {K : PySem.W.Frag} {mg : Str → Option Value} {base : Heap} {T : List (Addr × Str)}
theorem h_is_whole (t : Txt K mg) : HasFn P w K mg base T 1 "is_whole" g_is_whole :=
  fn_okD t.d_is_whole (show FnScope ["value", "low", "high"] ["value", "low", "high"] (defScope (topS 7)) from ⟨rfl, rfl, rfl, by decide +kernel, rfl, by decide +kernel, by decide +kernel⟩) fun f cdv A outer s H E ck hp => by
    unfold F_is_whole
    exact (dss_one (ds_ret (de_and (de_isi .int t.z_isinstance PyProof.Rows.boot_isinstance t.z_int PyProof.Rows.boot_int (de_var 0)) (de_and (de_not (de_isi .bool t.z_isinstance PyProof.Rows.boot_isinstance t.z_bool PyProof.Rows.boot_bool (de_var 0))) (de_one (de_chain op_le os_cmpI op_le os_cmpI (de_var 1) (de_var 0) (de_var 2)))))))
theorem h_is_end (t : Txt K mg) : HasFn P w K mg base T 2 "is_end" g_is_end :=
  fn_okD t.d_is_end (show FnScope ["value"] ["value"] (defScope (topS 8)) from ⟨rfl, rfl, rfl, by decide +kernel, rfl, by decide +kernel, by decide +kernel⟩) fun f cdv A outer s H E ck hp => by
    unfold F_is_end
    exact (dss_one (ds_ret (de_or (de_isN (de_var 0)) (de_one (de_call ck (h_is_whole t) (da_cons (de_var 0) (da_cons (de_un un_negA os_neg (de_gint t.c_FAR)) (da_cons (de_gint t.c_FAR) da_nil))))))))
theorem h_are_ends (t : Txt K mg) : HasFn P w K mg base T 3 "are_ends" g_are_ends :=
  fn_okD t.d_are_ends (show FnScope ["low", "high"] ["low", "high"] (defScope (topS 9)) from ⟨rfl, rfl, rfl, by decide +kernel, rfl, by decide +kernel, by decide +kernel⟩) fun f cdv A outer s H E ck hp => by
    unfold F_are_ends
    exact (dss_one (ds_ret (de_and (de_call ck (h_is_end t) (da_cons (de_var 0) da_nil)) (de_and (de_call ck (h_is_end t) (da_cons (de_var 1) da_nil)) (de_one (de_or (de_isN (de_var 0)) (de_or (de_isN (de_var 1)) (de_one (de_cmp op_le os_cmpI (de_var 0) (de_var 1))))))))))
theorem h_is_piece (t : Txt K mg) : HasFn P w K mg base T 4 "is_piece" g_is_piece :=
  fn_okD t.d_is_piece (show FnScope ["value"] ["value"] (defScope (topS 10)) from ⟨rfl, rfl, rfl, by decide +kernel, rfl, by decide +kernel, by decide +kernel⟩) fun f cdv A outer s H E ck hp => by
    unfold F_is_piece
    exact (dss_cons (ds_if (dt_w (dw_or (dt_not (dt_val (de_isi .tuple t.z_isinstance PyProof.Rows.boot_isinstance t.z_tuple PyProof.Rows.boot_tuple (de_var 0)))) (dw_or (dt_cmp (op_neD ck.hu) os_ne (de_blt call_len bs_len t.z_len PySem.boot_len (da_cons (de_var 0) da_nil)) de_int) (dw_or1 (dt_not (dt_val (de_call ck (h_are_ends t) (da_cons (de_ix (de_var 0) de_int) (da_cons (de_ix (de_var 0) de_int) da_nil))))))))) (dss_one (ds_ret de_bl)) dss_nil)
    (dss_cons (ds_if (dt_w (dw_or (dt_not (dt_val (de_isi .str t.z_isinstance PyProof.Rows.boot_isinstance t.z_str PyProof.Rows.boot_str (de_ix (de_var 0) de_int)))) (dw_or1 (dt_not (dt_val (de_call ck (h_is_whole t) (da_cons (de_ix (de_var 0) de_int) (da_cons (de_un un_negA os_neg (de_gint t.c_FAR)) (da_cons (de_gint t.c_FAR) da_nil))))))))) (dss_one (ds_ret de_bl)) dss_nil)
    (dss_one (ds_ret (de_or (de_cmp (op_eqD ck.hu) os_eq (de_ix (de_var 0) de_int) de_str) (de_one (de_and (de_cmp (op_eqD ck.hu) os_eq (de_ix (de_var 0) de_int) de_str) (de_one (de_cmp (op_neD ck.hu) os_ne (de_ix (de_var 0) de_int) de_int)))))))))
theorem h_are_apart (t : Txt K mg) : HasFn P w K mg base T 1 "are_apart" g_are_apart :=
  fn_okD t.d_are_apart (show FnScope ["one", "other"] ["one", "other"] (defScope (topS 11)) from ⟨rfl, rfl, rfl, by decide +kernel, rfl, by decide +kernel, by decide +kernel⟩) fun f cdv A outer s H E ck hp => by
    unfold F_are_apart
    exact (dss_one (ds_ret (de_and (de_notN (de_ix (de_var 0) de_int)) (de_and (de_notN (de_ix (de_var 1) de_int)) (de_one (de_cmp op_lt os_cmpI (de_ix (de_var 0) de_int) (de_ix (de_var 1) de_int)))))))
theorem h_fits_change (t : Txt K mg) : HasFn P w K mg base T 5 "fits_change" g_fits_change :=
  fn_okD t.d_fits_change (show FnScope ["value", "at", "piece"] ["value"] (defScope (topS 12)) from ⟨rfl, rfl, rfl, by decide +kernel, rfl, by decide +kernel, by decide +kernel⟩) fun f cdv A outer s H E ck hp => by
    unfold F_fits_change
    exact (dss_cons (ds_if (dt_w (dw_or (dt_not (dt_val (de_isi .tuple t.z_isinstance PyProof.Rows.boot_isinstance t.z_tuple PyProof.Rows.boot_tuple (de_var 0)))) (dw_or (dt_not (dt_chain op_le os_cmpI op_le os_cmpI de_int (de_blt call_len bs_len t.z_len PySem.boot_len (da_cons (de_var 0) da_nil)) de_int)) (dw_or1 (dt_not (dt_val (de_blt (cr_all ck.calm) bs_all t.z_all PyProof.Rows.boot_all (da_cons (de_lc ck (di_seq (de_var 0)) (blkOk_by (own := [("piece", 2)]) (by kernel_rfl)) (fun _ _ _ _ _ => (dg_name 2 ck.nd)) (fun _ _ _ _ _ ck => dc_nil) (fun _ _ _ _ _ ck => (de_call ck (h_is_piece t) (da_cons (de_var 2) da_nil)))) da_nil)))))))) (dss_one (ds_ret de_bl)) dss_nil)
    (dss_one (ds_ret (de_blt (cr_all ck.calm) bs_all t.z_all PyProof.Rows.boot_all (da_cons (de_lc ck (di_range1 (de_op op_subA os_sub (de_blt call_len bs_len t.z_len PySem.boot_len (da_cons (de_var 0) da_nil)) de_int) t.z_range) (blkOk_by (own := [("at", 1)]) (by kernel_rfl)) (fun _ _ _ _ _ => (dg_name 1 ck.nd)) (fun _ _ _ _ _ ck => dc_nil) (fun _ _ _ _ _ ck => (de_call ck (h_are_apart t) (da_cons (de_ix (de_var 0) (de_var 1)) (da_cons (de_ix (de_var 0) (de_op op_addA os_add (de_var 1) de_int)) da_nil))))) da_nil)))))
theorem h_need_worth (t : Txt K mg) : HasFn P w K mg base T 2 "need_worth" g_need_worth :=
  fn_okD t.d_need_worth (show FnScope ["value", "low"] ["value", "low"] (defScope (topS 13)) from ⟨rfl, rfl, rfl, by decide +kernel, rfl, by decide +kernel, by decide +kernel⟩) fun f cdv A outer s H E ck hp => by
    unfold F_need_worth
    exact (dss_one (ds_if (dt_not (dt_val (de_call ck (h_is_whole t) (da_cons (de_var 0) (da_cons (de_var 1) (da_cons (de_gint t.c_FAR) da_nil)))))) (dss_one (ds_raise ck t.x_InvalidWorth)) dss_nil))
theorem h_need_worth_d (t : Txt K mg) : HasFn P w K mg base T 2 "need_worth" g_need_worth_d :=
  fn_ok1 t.e_need_worth (show FnScope ["value", "low"] ["value", "low"] (defScope (topS 13)) from ⟨rfl, rfl, rfl, by decide +kernel, rfl, by decide +kernel, by decide +kernel⟩) fun f cdv A outer s H E ck hp => by
    unfold F_need_worth
    exact (dss_one (ds_if (dt_not (dt_val (de_call ck (h_is_whole t) (da_cons (de_var 0) (da_cons (de_var 1) (da_cons (de_gint t.c_FAR) da_nil)))))) (dss_one (ds_raise ck t.x_InvalidWorth)) dss_nil))
theorem h_need_times (t : Txt K mg) : HasFn P w K mg base T 2 "need_times" g_need_times :=
  fn_okD t.d_need_times (show FnScope ["value"] ["value"] (defScope (topS 14)) from ⟨rfl, rfl, rfl, by decide +kernel, rfl, by decide +kernel, by decide +kernel⟩) fun f cdv A outer s H E ck hp => by
    unfold F_need_times
    exact (dss_one (ds_if (dt_not (dt_val (de_call ck (h_is_whole t) (da_cons (de_var 0) (da_cons de_int (da_cons (de_gint t.c_FAR) da_nil)))))) (dss_one (ds_raise ck t.x_InvalidNumber)) dss_nil))
theorem h_has (t : Txt K mg) : HasFn P w K mg base T 1 "has" g_has :=
  fn_okD t.d_has (show FnScope ["piece", "worth"] ["piece", "worth"] (defScope (topS 15)) from ⟨rfl, rfl, rfl, by decide +kernel, rfl, by decide +kernel, by decide +kernel⟩) fun f cdv A outer s H E ck hp => by
    unfold F_has
    exact (dss_one (ds_ret (de_and (de_or (de_isN (de_ix (de_var 0) de_int)) (de_one (de_cmp op_le os_cmpI (de_ix (de_var 0) de_int) (de_var 1)))) (de_one (de_or (de_isN (de_ix (de_var 0) de_int)) (de_one (de_cmp op_le os_cmpI (de_var 1) (de_ix (de_var 0) de_int))))))))
theorem h_piece_of (t : Txt K mg) : HasFn P w K mg base T 2 "piece_of" g_piece_of :=
  fn_okD t.d_piece_of (show FnScope ["change", "worth", "piece"] ["change", "worth"] (defScope (topS 16)) from ⟨rfl, rfl, rfl, by decide +kernel, rfl, by decide +kernel, by decide +kernel⟩) fun f cdv A outer s H E ck hp => by
    unfold F_piece_of
    exact (dss_cons (ds_for ck hp (di_seq (de_var 0)) (dg_name 2 ck.nd) (dss_one (ds_if (dt_val (de_call ck (h_has t) (da_cons (de_var 2) (da_cons (de_var 1) da_nil)))) (dss_one (ds_ret (de_var 2))) dss_nil)))
    (dss_one (ds_ret de_non)))
theorem h_made (t : Txt K mg) : HasFn P w K mg base T 1 "made" g_made :=
  fn_okD t.d_made (show FnScope ["piece", "worth"] ["piece", "worth"] (defScope (topS 17)) from ⟨rfl, rfl, rfl, by decide +kernel, rfl, by decide +kernel, by decide +kernel⟩) fun f cdv A outer s H E ck hp => by
    unfold F_made
    exact (dss_cons (ds_if (dt_isN (de_var 0)) (dss_one (ds_ret (de_var 1))) dss_nil)
    (dss_one (ds_ret (de_if (dt_cmp (op_eqD ck.hu) os_eq (de_ix (de_var 0) de_int) de_str) (de_op op_addA os_add (de_var 1) (de_ix (de_var 0) de_int)) (de_ix (de_var 0) de_int)))))
theorem h_is_walk (t : Txt K mg) : HasFn P w K mg base T 4 "is_walk" g_is_walk :=
  fn_okD t.d_is_walk (show FnScope ["value"] ["value"] (defScope (topS 20)) from ⟨rfl, rfl, rfl, by decide +kernel, rfl, by decide +kernel, by decide +kernel⟩) fun f cdv A outer s H E ck hp => by
    unfold F_is_walk
    exact (dss_cons (ds_if (dt_w (dw_or (dt_not (dt_val (de_isi .tuple t.z_isinstance PyProof.Rows.boot_isinstance t.z_tuple PyProof.Rows.boot_tuple (de_var 0)))) (dw_or (dt_cmp (op_eqD ck.hu) os_eq (de_var 0) (de_tup da_nil)) (dw_or (dt_not (dt_val (de_isi .str t.z_isinstance PyProof.Rows.boot_isinstance t.z_str PyProof.Rows.boot_str (de_ix (de_var 0) de_int)))) (dw_or1 (dt_cmp op_notInA os_notIn (de_ix (de_var 0) de_int) (de_gtup t.c_WALKS))))))) (dss_one (ds_ret de_bl)) dss_nil)
    (dss_cons (ds_if (dt_cmp op_inA os_in (de_ix (de_var 0) de_int) (de_tup (da_cons de_str (da_cons de_str da_nil)))) (dss_one (ds_ret (de_cmp (op_eqD ck.hu) os_eq (de_blt call_len bs_len t.z_len PySem.boot_len (da_cons (de_var 0) da_nil)) de_int))) dss_nil)
    (dss_one (ds_ret (de_and (de_cmp (op_eqD ck.hu) os_eq (de_blt call_len bs_len t.z_len PySem.boot_len (da_cons (de_var 0) da_nil)) de_int) (de_one (de_call ck (h_are_ends t) (da_cons (de_ix (de_var 0) de_int) (da_cons (de_ix (de_var 0) de_int) da_nil)))))))))
theorem h_one_way (t : Txt K mg) : HasFn P w K mg base T 1 "one_way" g_one_way :=
  fn_okD t.d_one_way (show FnScope ["change", "some", "piece"] ["change"] (defScope (topS 21)) from ⟨rfl, rfl, rfl, by decide +kernel, rfl, by decide +kernel, by decide +kernel⟩) fun f cdv A outer s H E ck hp => by
    unfold F_one_way
    exact (dss_cons (ds_setLc 1 ck (di_seq (de_var 0)) (blkOk_by (own := [("piece", 2)]) (by kernel_rfl)) (fun _ _ _ _ _ => (dg_name 2 ck.nd)) (fun _ _ _ _ _ ck => (dc_one (dt_cmp (op_eqD ck.hu) os_eq (de_ix (de_var 2) de_int) de_str))) (fun _ _ _ _ _ ck => (de_cmp op_gt os_cmpI (de_ix (de_var 2) de_int) de_int)))
    (dss_one (ds_ret (de_or (de_cmp op_notInA os_notIn de_bl (de_var 1)) (de_one (de_cmp op_notInA os_notIn de_bl (de_var 1)))))))
theorem h_fits_statement (t : Txt K mg) : HasFn P w K mg base T 6 "fits_statement" g_fits_statement :=
  fn_okD t.d_fits_statement (show FnScope ["value"] ["value"] (defScope (topS 22)) from ⟨rfl, rfl, rfl, by decide +kernel, rfl, by decide +kernel, by decide +kernel⟩) fun f cdv A outer s H E ck hp => by
    unfold F_fits_statement
    exact (dss_cons (ds_if (dt_w (dw_or (dt_not (dt_val (de_isi .tuple t.z_isinstance PyProof.Rows.boot_isinstance t.z_tuple PyProof.Rows.boot_tuple (de_var 0)))) (dw_or (dt_cmp (op_neD ck.hu) os_ne (de_blt call_len bs_len t.z_len PySem.boot_len (da_cons (de_var 0) da_nil)) de_int) (dw_or (dt_not (dt_val (de_call ck (h_fits_change t) (da_cons (de_ix (de_var 0) de_int) da_nil)))) (dw_or1 (dt_not (dt_val (de_call ck (h_is_walk t) (da_cons (de_ix (de_var 0) de_int) da_nil))))))))) (dss_one (ds_ret de_bl)) dss_nil)
    (dss_one (ds_ret (de_or (de_cmp (op_neD ck.hu) os_ne (de_ix (de_ix (de_var 0) de_int) de_int) de_str) (de_one (de_call ck (h_one_way t) (da_cons (de_ix (de_var 0) de_int) da_nil)))))))
theorem h_need_statement (t : Txt K mg) : HasFn P w K mg base T 7 "need_statement" g_need_statement :=
  fn_okD t.d_need_statement (show FnScope ["value"] ["value"] (defScope (topS 23)) from ⟨rfl, rfl, rfl, by decide +kernel, rfl, by decide +kernel, by decide +kernel⟩) fun f cdv A outer s H E ck hp => by
    unfold F_need_statement
    exact (dss_one (ds_if (dt_not (dt_val (de_call ck (h_fits_statement t) (da_cons (de_var 0) da_nil)))) (dss_one (ds_raise ck t.x_InvalidStatement)) dss_nil))
theorem h_turned_end (t : Txt K mg) : HasFn P w K mg base T 1 "turned_end" g_turned_end :=
  fn_okD t.d_turned_end (show FnScope ["end"] ["end"] (defScope (topS 24)) from ⟨rfl, rfl, rfl, by decide +kernel, rfl, by decide +kernel, by decide +kernel⟩) fun f cdv A outer s H E ck hp => by
    unfold F_turned_end
    exact (dss_one (ds_ret (de_if (dt_isN (de_var 0)) de_non (de_un un_negA os_neg (de_var 0)))))
theorem h_turned (t : Txt K mg) : HasFn P w K mg base T 2 "turned" g_turned :=
  fn_okD t.d_turned (show FnScope ["change", "piece"] ["change"] (defScope (topS 25)) from ⟨rfl, rfl, rfl, by decide +kernel, rfl, by decide +kernel, by decide +kernel⟩) fun f cdv A outer s H E ck hp => by
    unfold F_turned
    exact (dss_one (ds_ret (de_bty call_tuple_of bs_tup t.z_tuple PyProof.Rows.boot_tuple (da_cons (de_lc ck (di_seq (de_revA (de_var 0))) (blkOk_by (own := [("piece", 1)]) (by kernel_rfl)) (fun _ _ _ _ _ => (dg_name 1 ck.nd)) (fun _ _ _ _ _ ck => dc_nil) (fun _ _ _ _ _ ck => (de_tup (da_cons (de_call ck (h_turned_end t) (da_cons (de_ix (de_var 1) de_int) da_nil)) (da_cons (de_call ck (h_turned_end t) (da_cons (de_ix (de_var 1) de_int) da_nil)) (da_cons (de_ix (de_var 1) de_int) (da_cons (de_un un_negA os_neg (de_ix (de_var 1) de_int)) da_nil))))))) da_nil))))
theorem h_goes_down (t : Txt K mg) : HasFn P w K mg base T 1 "goes_down" g_goes_down :=
  fn_okD t.d_goes_down (show FnScope ["statement", "change", "walk", "piece"] ["statement"] (defScope (topS 26)) from ⟨rfl, rfl, rfl, by decide +kernel, rfl, by decide +kernel, by decide +kernel⟩) fun f cdv A outer s H E ck hp => by
    unfold F_goes_down
    exact (dss_cons (ds_tgt (de_var 0) (dg_tup ck.calm (dgs_cons (dg_name 1 ck.nd) (dgs_cons (dg_name 2 ck.nd) dgs_nil))))
    (dss_cons (ds_if (dt_cmp (op_eqD ck.hu) os_eq (de_ix (de_var 2) de_int) de_str) (dss_one (ds_ret (de_cmp (op_neD ck.hu) os_ne (de_lc ck (di_seq (de_var 1)) (blkOk_by (own := [("piece", 3)]) (by kernel_rfl)) (fun _ _ _ _ _ => (dg_name 3 ck.nd)) (fun _ _ _ _ _ ck => (dc_one (dt_w (dw_and (dt_cmp (op_eqD ck.hu) os_eq (de_ix (de_var 3) de_int) de_str) (dw_and1 (dt_cmp op_lt os_cmpI (de_ix (de_var 3) de_int) de_int)))))) (fun _ _ _ _ _ ck => (de_var 3))) (de_lst da_nil)))) dss_nil)
    (dss_one (ds_ret (de_cmp (op_eqD ck.hu) os_eq (de_ix (de_var 2) de_int) de_str)))))
theorem h_risen (t : Txt K mg) : HasFn P w K mg base T 3 "risen" g_risen :=
  fn_okD t.d_risen (show FnScope ["statement", "change", "walk"] ["statement"] (defScope (topS 27)) from ⟨rfl, rfl, rfl, by decide +kernel, rfl, by decide +kernel, by decide +kernel⟩) fun f cdv A outer s H E ck hp => by
    unfold F_risen
    exact (dss_cons (ds_if (dt_not (dt_val (de_call ck (h_goes_down t) (da_cons (de_var 0) da_nil)))) (dss_one (ds_ret (de_var 0))) dss_nil)
    (dss_cons (ds_tgt (de_var 0) (dg_tup ck.calm (dgs_cons (dg_name 1 ck.nd) (dgs_cons (dg_name 2 ck.nd) dgs_nil))))
    (dss_cons (ds_if (dt_cmp (op_eqD ck.hu) os_eq (de_ix (de_var 2) de_int) de_str) (dss_one (ds_ret (de_tup (da_cons (de_call ck (h_turned t) (da_cons (de_var 1) da_nil)) (da_cons (de_var 2) da_nil))))) dss_nil)
    (dss_one (ds_ret (de_tup (da_cons (de_call ck (h_turned t) (da_cons (de_var 1) da_nil)) (da_cons (de_tup (da_cons de_str (da_cons (de_call ck (h_turned_end t) (da_cons (de_ix (de_var 2) de_int) da_nil)) (da_cons (de_call ck (h_turned_end t) (da_cons (de_ix (de_var 2) de_int) da_nil)) da_nil)))) da_nil))))))))
theorem h_sign_of (t : Txt K mg) : HasFn P w K mg base T 2 "sign_of" g_sign_of :=
  fn_okD t.d_sign_of (show FnScope ["statement"] ["statement"] (defScope (topS 28)) from ⟨rfl, rfl, rfl, by decide +kernel, rfl, by decide +kernel, by decide +kernel⟩) fun f cdv A outer s H E ck hp => by
    unfold F_sign_of
    exact (dss_one (ds_ret (de_if (dt_val (de_call ck (h_goes_down t) (da_cons (de_var 0) da_nil))) (de_un un_negA os_neg de_int) de_int)))
theorem h_in_walk (t : Txt K mg) : HasFn P w K mg base T 2 "in_walk" g_in_walk :=
  fn_okD t.d_in_walk (show FnScope ["walk", "worth"] ["walk", "worth"] (defScope (topS 29)) from ⟨rfl, rfl, rfl, by decide +kernel, rfl, by decide +kernel, by decide +kernel⟩) fun f cdv A outer s H E ck hp => by
    unfold F_in_walk
    exact (dss_one (ds_ret (de_or (de_cmp (op_neD ck.hu) os_ne (de_ix (de_var 0) de_int) de_str) (de_one (de_call ck (h_has t) (da_cons (de_tup (da_cons (de_ix (de_var 0) de_int) (da_cons (de_ix (de_var 0) de_int) da_nil))) (da_cons (de_var 1) da_nil)))))))
theorem h_again (t : Txt K mg) : HasFn P w K mg base T 1 "again" g_again :=
  fn_okD t.d_again (show FnScope ["walk", "old", "new"] ["walk", "old", "new"] (defScope (topS 30)) from ⟨rfl, rfl, rfl, by decide +kernel, rfl, by decide +kernel, by decide +kernel⟩) fun f cdv A outer s H E ck hp => by
    unfold F_again
    exact (dss_cons (ds_if (dt_cmp (op_eqD ck.hu) os_eq (de_ix (de_var 0) de_int) de_str) (dss_one (ds_ret (de_and (de_cmp op_gt os_cmpI (de_var 2) (de_var 1)) (de_one (de_or (de_isN (de_ix (de_var 0) de_int)) (de_one (de_cmp op_le os_cmpI (de_var 2) (de_ix (de_var 0) de_int)))))))) dss_nil)
    (dss_one (ds_ret (de_cmp (op_eqD ck.hu) os_eq (de_ix (de_var 0) de_int) de_str))))
theorem h_roof_of (t : Txt K mg) : HasFn P w K mg base T 1 "roof_of" g_roof_of :=
  fn_okD t.d_roof_of (show FnScope ["piece", "walk", "some", "end"] ["piece", "walk"] (defScope (topS 31)) from ⟨rfl, rfl, rfl, by decide +kernel, rfl, by decide +kernel, by decide +kernel⟩) fun f cdv A outer s H E ck hp => by
    unfold F_roof_of
    exact (dss_cons (ds_setLc 2 ck (di_seq (de_tup (da_cons (de_ix (de_var 0) de_int) (da_cons (de_if (dt_cmp (op_eqD ck.hu) os_eq (de_ix (de_var 1) de_int) de_str) (de_ix (de_var 1) de_int) de_non) da_nil)))) (blkOk_by (own := [("end", 3)]) (by kernel_rfl)) (fun _ _ _ _ _ => (dg_name 3 ck.nd)) (fun _ _ _ _ _ ck => (dc_one (dt_notN (de_var 3)))) (fun _ _ _ _ _ ck => (de_var 3)))
    (dss_one (ds_ret (de_if (dt_cmp (op_neD ck.hu) os_ne (de_var 2) (de_lst da_nil)) (de_blt (cr_min ck.calm) bs_min1 t.z_min PyProof.Rows.boot_min (da_cons (de_var 2) da_nil)) de_non))))
theorem h_runs_of (t : Txt K mg) : HasFn P w K mg base T 3 "runs_of" g_runs_of :=
  fn_okD t.d_runs_of (show FnScope ["statement", "worth", "change", "walk", "runs", "piece", "step", "many", "roof", "run"] ["statement", "worth"] (defScope (topS 32)) from ⟨rfl, rfl, rfl, by decide +kernel, rfl, by decide +kernel, by decide +kernel⟩) fun f cdv A outer s H E ck hp => by
    unfold F_runs_of
    exact (dss_cons (ds_tgt (de_var 0) (dg_tup ck.calm (dgs_cons (dg_name 2 ck.nd) (dgs_cons (dg_name 3 ck.nd) dgs_nil))))
    (dss_cons (ds_set 4 ck (de_lst da_nil))
    (dss_cons (ds_while hp (dt_w (dw_and (dt_val (de_call ck (h_in_walk t) (da_cons (de_var 3) (da_cons (de_var 1) da_nil)))) (dw_and1 (dt_notN (de_call ck (h_piece_of t) (da_cons (de_var 2) (da_cons (de_var 1) da_nil))))))) (dss_cons (ds_if (dt_cmp (op_neD ck.hu) os_ne (de_lc ck (di_seq (de_var 4)) (blkOk_by (own := [("run", 9)]) (by kernel_rfl)) (fun _ _ _ _ _ => (dg_name 9 ck.nd)) (fun _ _ _ _ _ ck => (dc_one (dt_cmp (op_eqD ck.hu) os_eq (de_ix (de_var 9) de_int) (de_var 1)))) (fun _ _ _ _ _ ck => (de_var 9))) (de_lst da_nil)) (dss_one (ds_ret (de_op op_addA os_add (de_var 4) (de_lst (da_cons (de_tup (da_cons (de_var 1) (da_cons de_int (da_cons de_int da_nil)))) da_nil))))) dss_nil)
    (dss_cons (ds_set 5 ck (de_call ck (h_piece_of t) (da_cons (de_var 2) (da_cons (de_var 1) da_nil))))
    (dss_cons (ds_set 6 ck (de_op op_subA os_sub (de_call ck (h_made t) (da_cons (de_var 5) (da_cons (de_var 1) da_nil))) (de_var 1)))
    (dss_cons (ds_set 7 ck de_int)
    (dss_cons (ds_if (dt_w (dw_and (dt_cmp (op_eqD ck.hu) os_eq (de_ix (de_var 5) de_int) de_str) (dw_and (dt_cmp op_gt os_cmpI (de_var 6) de_int) (dw_and1 (dt_cmp (op_neD ck.hu) os_ne (de_ix (de_var 3) de_int) de_str))))) (dss_cons (ds_set 8 ck (de_call ck (h_roof_of t) (da_cons (de_var 5) (da_cons (de_var 3) da_nil))))
    (dss_one (ds_set 7 ck (de_if (dt_isN (de_var 8)) de_non (de_op op_addA os_add (de_op op_fdivA os_div (de_op op_subA os_sub (de_var 8) (de_var 1)) (de_var 6)) de_int))))) dss_nil)
    (dss_cons (ds_set 4 ck (de_op op_addA os_add (de_var 4) (de_lst (da_cons (de_tup (da_cons (de_var 1) (da_cons (de_var 7) (da_cons (de_var 6) da_nil)))) da_nil))))
    (dss_cons (ds_if (dt_isN (de_var 7)) (dss_one (ds_ret (de_var 4))) dss_nil)
    (dss_cons (ds_if (dt_not (dt_val (de_call ck (h_again t) (da_cons (de_var 3) (da_cons (de_op op_addA os_add (de_var 1) (de_op op_mulA os_mul (de_op op_subA os_sub (de_var 7) de_int) (de_var 6))) (da_cons (de_op op_addA os_add (de_var 1) (de_op op_mulA os_mul (de_var 7) (de_var 6))) da_nil)))))) (dss_one (ds_ret (de_op op_addA os_add (de_var 4) (de_lst (da_cons (de_tup (da_cons (de_op op_addA os_add (de_var 1) (de_op op_mulA os_mul (de_var 7) (de_var 6))) (da_cons de_int (da_cons de_int da_nil)))) da_nil))))) dss_nil)
    (dss_one (ds_set 1 ck (de_op op_addA os_add (de_var 1) (de_op op_mulA os_mul (de_var 7) (de_var 6))))))))))))))
    (dss_one (ds_ret (de_op op_addA os_add (de_var 4) (de_lst (da_cons (de_tup (da_cons (de_var 1) (da_cons de_int (da_cons de_int da_nil)))) da_nil))))))))
theorem h_round_at (t : Txt K mg) : HasFn P w K mg base T 1 "round_at" g_round_at :=
  fn_okD t.d_round_at (show FnScope ["runs", "some", "at"] ["runs"] (defScope (topS 33)) from ⟨rfl, rfl, rfl, by decide +kernel, rfl, by decide +kernel, by decide +kernel⟩) fun f cdv A outer s H E ck hp => by
    unfold F_round_at
    exact (dss_cons (ds_setLc 1 ck (di_range1 (de_op op_subA os_sub (de_blt call_len bs_len t.z_len PySem.boot_len (da_cons (de_var 0) da_nil)) de_int) t.z_range) (blkOk_by (own := [("at", 2)]) (by kernel_rfl)) (fun _ _ _ _ _ => (dg_name 2 ck.nd)) (fun _ _ _ _ _ ck => (dc_one (dt_cmp (op_eqD ck.hu) os_eq (de_ix (de_ix (de_var 0) (de_var 2)) de_int) (de_ix (de_ix (de_var 0) (de_un un_negA os_neg de_int)) de_int)))) (fun _ _ _ _ _ ck => (de_var 2)))
    (dss_one (ds_ret (de_if (dt_w (dw_and (dt_cmp (op_eqD ck.hu) os_eq (de_ix (de_ix (de_var 0) (de_un un_negA os_neg de_int)) de_int) de_int) (dw_and1 (dt_cmp (op_neD ck.hu) os_ne (de_var 1) (de_lst da_nil))))) (de_ix (de_var 1) de_int) de_non))))
theorem h_goes_round (t : Txt K mg) : HasFn P w K mg base T 2 "goes_round" g_goes_round :=
  fn_okD t.d_goes_round (show FnScope ["statement", "runs"] ["statement", "runs"] (defScope (topS 34)) from ⟨rfl, rfl, rfl, by decide +kernel, rfl, by decide +kernel, by decide +kernel⟩) fun f cdv A outer s H E ck hp => by
    unfold F_goes_round
    exact (dss_one (ds_ret (de_and (de_cmp (op_eqD ck.hu) os_eq (de_ix (de_ix (de_var 0) de_int) de_int) de_str) (de_one (de_notN (de_call ck (h_round_at t) (da_cons (de_var 1) da_nil)))))))
theorem h_fate_of (t : Txt K mg) : HasFn P w K mg base T 4 "fate_of" g_fate_of :=
  fn_okD t.d_fate_of (show FnScope ["statement", "worth", "runs", "run"] ["statement", "worth"] (defScope (topS 35)) from ⟨rfl, rfl, rfl, by decide +kernel, rfl, by decide +kernel, by decide +kernel⟩) fun f cdv A outer s H E ck hp => by
    unfold F_fate_of
    exact (dss_cons (ds_set 2 ck (de_call ck (h_runs_of t) (da_cons (de_var 0) (da_cons (de_var 1) da_nil))))
    (dss_cons (ds_if (dt_w (dw_or (dt_isN (de_ix (de_ix (de_var 2) (de_un un_negA os_neg de_int)) de_int)) (dw_or1 (dt_val (de_call ck (h_goes_round t) (da_cons (de_var 0) (da_cons (de_var 2) da_nil))))))) (dss_one (ds_ret (de_tup (da_cons de_non (da_cons de_non da_nil))))) dss_nil)
    (dss_one (ds_ret (de_tup (da_cons (de_blt (cr_sum ck.calm) bs_sum t.z_sum PyProof.Rows.boot_sum (da_cons (de_lc ck (di_seq (de_var 2)) (blkOk_by (own := [("run", 3)]) (by kernel_rfl)) (fun _ _ _ _ _ => (dg_name 3 ck.nd)) (fun _ _ _ _ _ ck => dc_nil) (fun _ _ _ _ _ ck => (de_ix (de_var 3) de_int))) da_nil)) (da_cons (de_ix (de_ix (de_var 2) (de_un un_negA os_neg de_int)) de_int) da_nil)))))))
theorem h_behind_of (t : Txt K mg) : HasFn P w K mg base T 4 "behind_of" g_behind_of :=
  fn_okD t.d_behind_of (show FnScope ["statement", "worth", "times", "runs", "at", "early", "whole", "begin", "many", "step", "run"] ["statement", "worth", "times"] (defScope (topS 36)) from ⟨rfl, rfl, rfl, by decide +kernel, rfl, by decide +kernel, by decide +kernel⟩) fun f cdv A outer s H E ck hp => by
    unfold F_behind_of
    exact (dss_cons (ds_set 3 ck (de_call ck (h_runs_of t) (da_cons (de_var 0) (da_cons (de_var 1) da_nil))))
    (dss_cons (ds_if (dt_val (de_call ck (h_goes_round t) (da_cons (de_var 0) (da_cons (de_var 3) da_nil)))) (dss_cons (ds_set 4 ck (de_call ck (h_round_at t) (da_cons (de_var 3) da_nil)))
    (dss_cons (ds_set 5 ck (de_blt (cr_sum ck.calm) bs_sum t.z_sum PyProof.Rows.boot_sum (da_cons (de_lc ck (di_seq (de_sl (de_var 3) dp_none (dp_some (de_var 4)))) (blkOk_by (own := [("run", 10)]) (by kernel_rfl)) (fun _ _ _ _ _ => (dg_name 10 ck.nd)) (fun _ _ _ _ _ ck => dc_nil) (fun _ _ _ _ _ ck => (de_ix (de_var 10) de_int))) da_nil)))
    (dss_cons (ds_set 6 ck (de_blt (cr_sum ck.calm) bs_sum t.z_sum PyProof.Rows.boot_sum (da_cons (de_lc ck (di_seq (de_sl (de_var 3) (dp_some (de_var 4)) dp_none)) (blkOk_by (own := [("run", 10)]) (by kernel_rfl)) (fun _ _ _ _ _ => (dg_name 10 ck.nd)) (fun _ _ _ _ _ ck => dc_nil) (fun _ _ _ _ _ ck => (de_ix (de_var 10) de_int))) da_nil)))
    (dss_one (ds_set 2 ck (de_if (dt_cmp op_lt os_cmpI (de_var 2) (de_var 5)) (de_var 2) (de_op op_addA os_add (de_var 5) (de_op op_modN os_mod (de_op op_subA os_sub (de_var 2) (de_var 5)) (de_var 6))))))))) dss_nil)
    (dss_cons (ds_for ck hp (di_seq (de_var 3)) (dg_tup ck.calm (dgs_cons (dg_name 7 ck.nd) (dgs_cons (dg_name 8 ck.nd) (dgs_cons (dg_name 9 ck.nd) dgs_nil)))) (dss_cons (ds_if (dt_w (dw_or (dt_isN (de_var 8)) (dw_or1 (dt_cmp op_le os_cmpI (de_var 2) (de_var 8))))) (dss_one (ds_ret (de_op op_addA os_add (de_var 7) (de_op op_mulA os_mul (de_var 2) (de_var 9))))) dss_nil)
    (dss_one (ds_set 2 ck (de_op op_subA os_sub (de_var 2) (de_var 8))))))
    (dss_one (ds_ret de_non)))))
theorem h_when_of (t : Txt K mg) : HasFn P w K mg base T 4 "when_of" g_when_of :=
  fn_okD t.d_when_of (show FnScope ["statement", "worth", "goal", "done", "begin", "many", "step", "gap"] ["statement", "worth", "goal"] (defScope (topS 37)) from ⟨rfl, rfl, rfl, by decide +kernel, rfl, by decide +kernel, by decide +kernel⟩) fun f cdv A outer s H E ck hp => by
    unfold F_when_of
    exact (dss_cons (ds_set 3 ck de_int)
    (dss_cons (ds_for ck hp (di_seq (de_call ck (h_runs_of t) (da_cons (de_var 0) (da_cons (de_var 1) da_nil)))) (dg_tup ck.calm (dgs_cons (dg_name 4 ck.nd) (dgs_cons (dg_name 5 ck.nd) (dgs_cons (dg_name 6 ck.nd) dgs_nil)))) (dss_cons (ds_set 7 ck (de_op op_subA os_sub (de_var 2) (de_var 4)))
    (dss_cons (ds_if (dt_cmp (op_eqD ck.hu) os_eq (de_var 7) de_int) (dss_one (ds_ret (de_var 3))) dss_nil)
    (dss_cons (ds_if (dt_w (dw_and (dt_cmp (op_neD ck.hu) os_ne (de_var 6) de_int) (dw_and (dt_cmp (op_eqD ck.hu) os_eq (de_op op_modN os_mod (de_var 7) (de_var 6)) de_int) (dw_and (dt_cmp op_gt os_cmpI (de_op op_fdivA os_div (de_var 7) (de_var 6)) de_int) (dw_and1 (dt_w (dw_or (dt_isN (de_var 5)) (dw_or1 (dt_cmp op_le os_cmpI (de_op op_fdivA os_div (de_var 7) (de_var 6)) (de_var 5)))))))))) (dss_one (ds_ret (de_op op_addA os_add (de_var 3) (de_op op_fdivA os_div (de_var 7) (de_var 6))))) dss_nil)
    (dss_one (ds_set 3 ck (de_op op_addA os_add (de_var 3) (de_if (dt_notN (de_var 5)) (de_var 5) de_int))))))))
    (dss_one (ds_ret de_non))))
theorem h_fate (t : Txt K mg) : HasFn P w K mg base T 8 "fate" g_fate :=
  fn_okD t.d_fate (show FnScope ["statement", "worth", "sign", "times", "last"] ["statement", "worth"] (defScope (topS 38)) from ⟨rfl, rfl, rfl, by decide +kernel, rfl, by decide +kernel, by decide +kernel⟩) fun f cdv A outer s H E ck hp => by
    unfold F_fate
    exact (dss_cons (ds_expr (de_call ck (h_need_statement t) (da_cons (de_var 0) da_nil)))
    (dss_cons (ds_expr (de_call ck (h_need_worth_d t) (da_cons (de_var 1) da_nil)))
    (dss_cons (ds_set 2 ck (de_call ck (h_sign_of t) (da_cons (de_var 0) da_nil)))
    (dss_cons (ds_tgt (de_call ck (h_fate_of t) (da_cons (de_call ck (h_risen t) (da_cons (de_var 0) da_nil)) (da_cons (de_op op_mulA os_mul (de_var 2) (de_var 1)) da_nil))) (dg_tup ck.calm (dgs_cons (dg_name 3 ck.nd) (dgs_cons (dg_name 4 ck.nd) dgs_nil))))
    (dss_one (ds_ret (de_tup (da_cons (de_var 3) (da_cons (de_if (dt_isN (de_var 4)) de_non (de_op op_mulA os_mul (de_var 2) (de_var 4))) da_nil)))))))))
theorem h_behind (t : Txt K mg) : HasFn P w K mg base T 8 "behind" g_behind :=
  fn_okD t.d_behind (show FnScope ["statement", "worth", "times", "found"] ["statement", "worth", "times"] (defScope (topS 39)) from ⟨rfl, rfl, rfl, by decide +kernel, rfl, by decide +kernel, by decide +kernel⟩) fun f cdv A outer s H E ck hp => by
    unfold F_behind
    exact (dss_cons (ds_expr (de_call ck (h_need_statement t) (da_cons (de_var 0) da_nil)))
    (dss_cons (ds_expr (de_call ck (h_need_worth_d t) (da_cons (de_var 1) da_nil)))
    (dss_cons (ds_expr (de_call ck (h_need_times t) (da_cons (de_var 2) da_nil)))
    (dss_cons (ds_set 3 ck (de_call ck (h_behind_of t) (da_cons (de_call ck (h_risen t) (da_cons (de_var 0) da_nil)) (da_cons (de_op op_mulA os_mul (de_call ck (h_sign_of t) (da_cons (de_var 0) da_nil)) (de_var 1)) (da_cons (de_var 2) da_nil)))))
    (dss_one (ds_ret (de_if (dt_isN (de_var 3)) de_non (de_op op_mulA os_mul (de_call ck (h_sign_of t) (da_cons (de_var 0) da_nil)) (de_var 3)))))))))
theorem h_when_at (t : Txt K mg) : HasFn P w K mg base T 8 "when_at" g_when_at :=
  fn_okD t.d_when_at (show FnScope ["statement", "worth", "goal"] ["statement", "worth", "goal"] (defScope (topS 40)) from ⟨rfl, rfl, rfl, by decide +kernel, rfl, by decide +kernel, by decide +kernel⟩) fun f cdv A outer s H E ck hp => by
    unfold F_when_at
    exact (dss_cons (ds_expr (de_call ck (h_need_statement t) (da_cons (de_var 0) da_nil)))
    (dss_cons (ds_expr (de_call ck (h_need_worth_d t) (da_cons (de_var 1) da_nil)))
    (dss_cons (ds_expr (de_call ck (h_need_worth_d t) (da_cons (de_var 2) da_nil)))
    (dss_one (ds_ret (de_call ck (h_when_of t) (da_cons (de_call ck (h_risen t) (da_cons (de_var 0) da_nil)) (da_cons (de_op op_mulA os_mul (de_call ck (h_sign_of t) (da_cons (de_var 0) da_nil)) (de_var 1)) (da_cons (de_op op_mulA os_mul (de_call ck (h_sign_of t) (da_cons (de_var 0) da_nil)) (de_var 2)) da_nil)))))))))
theorem h__law_drum (t : Txt K mg) : HasFn P w K mg base T 1 "_law_drum" g__law_drum :=
  fn_okD t.d__law_drum (show FnScope ["cell", "turn", "great"] ["cell", "turn"] (defScope (topS 42)) from ⟨rfl, rfl, rfl, by decide +kernel, rfl, by decide +kernel, by decide +kernel⟩) fun f cdv A outer s H E ck hp => by
    unfold F__law_drum
    exact (dss_cons (ds_set 2 ck (de_if (dt_cmp op_ge os_cmpI (de_var 0) (de_op op_pow os_pow de_int de_int)) (de_op op_addA os_add (de_op op_fdivA os_div (de_var 0) de_int) (de_op op_mulA os_mul de_int (de_var 1))) de_int))
    (dss_one (ds_ret (de_lstM (da_cons (de_var 2) (da_cons (de_op op_addA os_add (de_op op_modN os_mod (de_bty (call_int1.or call_int_str) bs_int t.z_int PyProof.Rows.boot_int (da_cons (de_op op_addA os_add (de_op op_mulA os_mul (de_var 0) de_int) (de_op op_mulA os_mul de_int (de_var 1))) da_nil)) de_int) de_int) da_nil))))))
theorem h__law_roll (t : Txt K mg) : HasFn P w K mg base T 1 "_law_roll" g__law_roll :=
  fn_okD t.d__law_roll (show FnScope ["drum", "many", "found", "deep"] ["drum", "many"] (defScope (topS 43)) from ⟨rfl, rfl, rfl, by decide +kernel, rfl, by decide +kernel, by decide +kernel⟩) fun f cdv A outer s H E ck hp => by
    unfold F__law_roll
    exact (dss_cons (ds_if (dt_cmp op_gt os_cmpI (de_ix (de_var 0) de_int) de_int) (dss_cons (ds_set 2 ck (de_op op_modN os_mod (de_bty (call_int1.or call_int_str) bs_int t.z_int PyProof.Rows.boot_int (da_cons (de_ix (de_var 0) de_int) da_nil)) (de_var 1)))
    (dss_cons (ds_sub (de_op op_fdivA os_div (de_ix (de_var 0) de_int) (de_var 1)) (de_var 0) de_int)
    (dss_one (ds_ret (de_var 2))))) dss_nil)
    (dss_cons (ds_sub (de_op op_modN os_mod (de_bty (call_int1.or call_int_str) bs_int t.z_int PyProof.Rows.boot_int (da_cons (de_op op_addA os_add (de_op op_mulA os_mul (de_ix (de_var 0) de_int) de_int) de_int) da_nil)) de_int) (de_var 0) de_int)
    (dss_cons (ds_set 3 ck (de_op op_modN os_mod (de_bty (call_int1.or call_int_str) bs_int t.z_int PyProof.Rows.boot_int (da_cons (de_op op_mulA os_mul (de_ix (de_var 0) de_int) (de_op op_addA os_add (de_ix (de_var 0) de_int) de_int)) da_nil)) de_int))
    (dss_one (ds_ret (de_op op_modN os_mod (de_bty (call_int1.or call_int_str) bs_int t.z_int PyProof.Rows.boot_int (da_cons (de_op op_fdivA os_div (de_var 3) de_int) da_nil)) (de_var 1)))))))
theorem h__law_some (t : Txt K mg) : HasFn P w K mg base T 2 "_law_some" g__law_some :=
  fn_okD t.d__law_some (show FnScope ["drum", "things"] ["drum", "things"] (defScope (topS 44)) from ⟨rfl, rfl, rfl, by decide +kernel, rfl, by decide +kernel, by decide +kernel⟩) fun f cdv A outer s H E ck hp => by
    unfold F__law_some
    exact (dss_one (ds_ret (de_ix (de_var 1) (de_call ck (h__law_roll t) (da_cons (de_var 0) (da_cons (de_blt call_len bs_len t.z_len PySem.boot_len (da_cons (de_var 1) da_nil)) da_nil))))))
theorem h__law_change (t : Txt K mg) : HasFn P w K mg base T 3 "_law_change" g__law_change :=
  fn_okD t.d__law_change (show FnScope ["drum", "most", "pieces", "low", "turn", "high", "word", "by"] ["drum", "most"] (defScope (topS 45)) from ⟨rfl, rfl, rfl, by decide +kernel, rfl, by decide +kernel, by decide +kernel⟩) fun f cdv A outer s H E ck hp => by
    unfold F__law_change
    exact (dss_cons (ds_par 2 3 ck (de_lstM da_nil) (de_op op_addA os_add (de_un un_negA os_neg de_int) (de_call ck (h__law_roll t) (da_cons (de_var 0) (da_cons de_int da_nil)))))
    (dss_cons (ds_for ck hp (di_range1 (de_op op_addA os_add de_int (de_call ck (h__law_roll t) (da_cons (de_var 0) (da_cons de_int da_nil)))) t.z_range) (dg_name 4 ck.nd) (dss_cons (ds_set 5 ck (de_op op_addA os_add (de_var 3) (de_call ck (h__law_some t) (da_cons (de_var 0) (da_cons (de_lst (da_cons de_int (da_cons de_int (da_cons de_int (da_cons de_int (da_cons de_int da_nil)))))) da_nil)))))
    (dss_cons (ds_set 6 ck (de_call ck (h__law_some t) (da_cons (de_var 0) (da_cons (de_lst (da_cons de_str (da_cons de_str (da_cons de_str (da_cons de_str da_nil))))) da_nil))))
    (dss_cons (ds_set 7 ck (de_if (dt_cmp (op_eqD ck.hu) os_eq (de_var 6) de_str) (de_op op_mulA os_mul (de_call ck (h__law_some t) (da_cons (de_var 0) (da_cons (de_lst (da_cons (de_un un_negA os_neg de_int) (da_cons de_int (da_cons de_int da_nil)))) da_nil))) (de_op op_addA os_add de_int (de_call ck (h__law_roll t) (da_cons (de_var 0) (da_cons (de_var 1) da_nil))))) (de_op op_addA os_add (de_un un_negA os_neg de_int) (de_call ck (h__law_roll t) (da_cons (de_var 0) (da_cons de_int da_nil))))))
    (dss_cons (ds_expr (de_app (de_var 2) (de_tup (da_cons (de_var 3) (da_cons (de_var 5) (da_cons (de_var 6) (da_cons (de_var 7) da_nil)))))))
    (dss_one (ds_set 3 ck (de_op op_addA os_add (de_op op_addA os_add (de_var 5) de_int) (de_call ck (h__law_some t) (da_cons (de_var 0) (da_cons (de_lst (da_cons de_int (da_cons de_int (da_cons de_int (da_cons de_int da_nil))))) da_nil)))))))))))
    (dss_cons (ds_if (dt_cmp (op_eqD ck.hu) os_eq (de_call ck (h__law_roll t) (da_cons (de_var 0) (da_cons de_int da_nil))) de_int) (dss_one (ds_sub (de_op op_addA os_add (de_tup (da_cons de_non da_nil)) (de_sl (de_ix (de_var 2) de_int) (dp_some de_int) dp_none)) (de_var 2) de_int)) dss_nil)
    (dss_cons (ds_if (dt_cmp (op_eqD ck.hu) os_eq (de_call ck (h__law_roll t) (da_cons (de_var 0) (da_cons de_int da_nil))) de_int) (dss_one (ds_sub (de_op op_addA os_add (de_tup (da_cons (de_ix (de_ix (de_var 2) (de_un un_negA os_neg de_int)) de_int) (da_cons de_non da_nil))) (de_sl (de_ix (de_var 2) (de_un un_negA os_neg de_int)) (dp_some de_int) dp_none)) (de_var 2) (de_un un_negA os_neg de_int))) dss_nil)
    (dss_one (ds_ret (de_bty call_tuple_of bs_tup t.z_tuple PyProof.Rows.boot_tuple (da_cons (de_var 2) da_nil))))))))
theorem h__law_one_way (t : Txt K mg) : HasFn P w K mg base T 1 "_law_one_way" g__law_one_way :=
  fn_okD t.d__law_one_way (show FnScope ["change_so", "piece"] ["change_so"] (defScope (topS 46)) from ⟨rfl, rfl, rfl, by decide +kernel, rfl, by decide +kernel, by decide +kernel⟩) fun f cdv A outer s H E ck hp => by
    unfold F__law_one_way
    exact (dss_one (ds_ret (de_bty call_tuple_of bs_tup t.z_tuple PyProof.Rows.boot_tuple (da_cons (de_lc ck (di_seq (de_var 0)) (blkOk_by (own := [("piece", 1)]) (by kernel_rfl)) (fun _ _ _ _ _ => (dg_name 1 ck.nd)) (fun _ _ _ _ _ ck => dc_nil) (fun _ _ _ _ _ ck => (de_op op_addA os_add (de_sl (de_var 1) dp_none (dp_some de_int)) (de_tup (da_cons (de_if (dt_cmp (op_eqD ck.hu) os_eq (de_ix (de_var 1) de_int) de_str) (de_blt call_abs bs_abs t.z_abs PyProof.Rows.boot_abs (da_cons (de_ix (de_var 1) de_int) da_nil)) (de_ix (de_var 1) de_int)) da_nil))))) da_nil))))
theorem h__law_statement (t : Txt K mg) : HasFn P w K mg base T 4 "_law_statement" g__law_statement :=
  fn_okD t.d__law_statement (show FnScope ["drum", "most", "change_so", "word", "low", "high", "one"] ["drum", "most"] (defScope (topS 47)) from ⟨rfl, rfl, rfl, by decide +kernel, rfl, by decide +kernel, by decide +kernel⟩) fun f cdv A outer s H E ck hp => by
    unfold F__law_statement
    exact (dss_cons (ds_par 2 3 ck (de_call ck (h__law_change t) (da_cons (de_var 0) (da_cons (de_var 1) da_nil))) (de_call ck (h__law_some t) (da_cons (de_var 0) (da_cons (de_lst (da_cons de_str (da_cons de_str (da_cons de_str (da_cons de_str (da_cons de_str (da_cons de_str da_nil))))))) da_nil))))
    (dss_cons (ds_if (dt_cmp (op_eqD ck.hu) os_eq (de_var 3) de_str) (dss_one (ds_ret (de_tup (da_cons (de_var 2) (da_cons (de_tup (da_cons de_str da_nil)) da_nil))))) dss_nil)
    (dss_cons (ds_if (dt_cmp (op_eqD ck.hu) os_eq (de_var 3) de_str) (dss_cons (ds_set 2 ck (de_call ck (h__law_one_way t) (da_cons (de_var 2) da_nil)))
    (dss_cons (ds_if (dt_cmp (op_eqD ck.hu) os_eq (de_call ck (h__law_roll t) (da_cons (de_var 0) (da_cons de_int da_nil))) de_int) (dss_one (ds_set 2 ck (de_bty call_tuple_of bs_tup t.z_tuple PyProof.Rows.boot_tuple (da_cons (de_lc ck (di_seq (de_var 2)) (blkOk_by (own := [("one", 6)]) (by kernel_rfl)) (fun _ _ _ _ _ => (dg_name 6 ck.nd)) (fun _ _ _ _ _ ck => dc_nil) (fun _ _ _ _ _ ck => (de_op op_addA os_add (de_sl (de_var 6) dp_none (dp_some de_int)) (de_tup (da_cons (de_if (dt_cmp (op_eqD ck.hu) os_eq (de_ix (de_var 6) de_int) de_str) (de_un un_negA os_neg (de_ix (de_var 6) de_int)) (de_ix (de_var 6) de_int)) da_nil))))) da_nil)))) dss_nil)
    (dss_one (ds_ret (de_tup (da_cons (de_var 2) (da_cons (de_tup (da_cons de_str da_nil)) da_nil))))))) dss_nil)
    (dss_cons (ds_tgt (de_blt cr_sortedI bs_sorted t.z_sorted PyProof.Rows.boot_sorted (da_cons (de_lst (da_cons (de_op op_addA os_add (de_un un_negA os_neg de_int) (de_call ck (h__law_roll t) (da_cons (de_var 0) (da_cons de_int da_nil)))) (da_cons (de_op op_addA os_add (de_un un_negA os_neg de_int) (de_call ck (h__law_roll t) (da_cons (de_var 0) (da_cons de_int da_nil)))) da_nil))) da_nil)) (dg_unl ck.calm (dgs_cons (dg_name 4 ck.nd) (dgs_cons (dg_name 5 ck.nd) dgs_nil))))
    (dss_cons (ds_set 4 ck (de_if (dt_cmp op_gt os_cmpI (de_call ck (h__law_roll t) (da_cons (de_var 0) (da_cons de_int da_nil))) de_int) de_non (de_var 4)))
    (dss_one (ds_ret (de_tup (da_cons (de_var 2) (da_cons (de_tup (da_cons (de_var 3) (da_cons (de_var 4) (da_cons (de_if (dt_cmp op_gt os_cmpI (de_call ck (h__law_roll t) (da_cons (de_var 0) (da_cons de_int da_nil))) de_int) de_non (de_var 5)) da_nil)))) da_nil))))))))))
theorem h__law_has (t : Txt K mg) : HasFn P w K mg base T 1 "_law_has" g__law_has :=
  fn_okD t.d__law_has (show FnScope ["low", "high", "worth"] ["low", "high", "worth"] (defScope (topS 48)) from ⟨rfl, rfl, rfl, by decide +kernel, rfl, by decide +kernel, by decide +kernel⟩) fun f cdv A outer s H E ck hp => by
    unfold F__law_has
    exact (dss_one (ds_ret (de_and (de_or (de_isN (de_var 0)) (de_one (de_cmp op_le os_cmpI (de_var 0) (de_var 2)))) (de_one (de_or (de_isN (de_var 1)) (de_one (de_cmp op_le os_cmpI (de_var 2) (de_var 1))))))))
theorem h__law_piece (t : Txt K mg) : HasFn P w K mg base T 2 "_law_piece" g__law_piece :=
  fn_okD t.d__law_piece (show FnScope ["change_so", "worth", "piece"] ["change_so", "worth"] (defScope (topS 49)) from ⟨rfl, rfl, rfl, by decide +kernel, rfl, by decide +kernel, by decide +kernel⟩) fun f cdv A outer s H E ck hp => by
    unfold F__law_piece
    exact (dss_cons (ds_for ck hp (di_seq (de_var 0)) (dg_name 2 ck.nd) (dss_one (ds_if (dt_val (de_call ck (h__law_has t) (da_cons (de_ix (de_var 2) de_int) (da_cons (de_ix (de_var 2) de_int) (da_cons (de_var 1) da_nil))))) (dss_one (ds_ret (de_var 2))) dss_nil)))
    (dss_one (ds_ret de_non)))
theorem h__law_changed (t : Txt K mg) : HasFn P w K mg base T 3 "_law_changed" g__law_changed :=
  fn_okD t.d__law_changed (show FnScope ["change_so", "worth", "piece"] ["change_so", "worth"] (defScope (topS 50)) from ⟨rfl, rfl, rfl, by decide +kernel, rfl, by decide +kernel, by decide +kernel⟩) fun f cdv A outer s H E ck hp => by
    unfold F__law_changed
    exact (dss_cons (ds_set 2 ck (de_call ck (h__law_piece t) (da_cons (de_var 0) (da_cons (de_var 1) da_nil))))
    (dss_cons (ds_if (dt_isN (de_var 2)) (dss_one (ds_ret (de_var 1))) dss_nil)
    (dss_one (ds_ret (de_if (dt_cmp (op_eqD ck.hu) os_eq (de_ix (de_var 2) de_int) de_str) (de_op op_addA os_add (de_var 1) (de_ix (de_var 2) de_int)) (de_ix (de_var 2) de_int))))))
theorem h__law_path (t : Txt K mg) : HasFn P w K mg base T 4 "_law_path" g__law_path :=
  fn_okD t.d__law_path (show FnScope ["one", "worth", "change_so", "walk", "path", "old", "new"] ["one", "worth"] (defScope (topS 51)) from ⟨rfl, rfl, rfl, by decide +kernel, rfl, by decide +kernel, by decide +kernel⟩) fun f cdv A outer s H E ck hp => by
    unfold F__law_path
    exact (dss_cons (ds_tgt (de_var 0) (dg_tup ck.calm (dgs_cons (dg_name 2 ck.nd) (dgs_cons (dg_name 3 ck.nd) dgs_nil))))
    (dss_cons (ds_set 4 ck (de_lstM (da_cons (de_var 1) da_nil)))
    (dss_cons (ds_while hp (dt_cmp op_lt os_cmpI (de_blt call_len bs_len t.z_len PySem.boot_len (da_cons (de_var 4) da_nil)) de_int) (dss_cons (ds_set 5 ck (de_ix (de_var 4) (de_un un_negA os_neg de_int)))
    (dss_cons (ds_if (dt_w (dw_or (dt_isN (de_call ck (h__law_piece t) (da_cons (de_var 2) (da_cons (de_var 5) da_nil)))) (dw_or1 (dt_w (dw_and (dt_cmp (op_eqD ck.hu) os_eq (de_blt call_len bs_len t.z_len PySem.boot_len (da_cons (de_var 3) da_nil)) de_int) (dw_and1 (dt_not (dt_val (de_call ck (h__law_has t) (da_cons (de_ix (de_var 3) de_int) (da_cons (de_ix (de_var 3) de_int) (da_cons (de_var 5) da_nil)))))))))))) (dss_one (ds_retF (de_var 4))) dss_nil)
    (dss_cons (ds_set 6 ck (de_call ck (h__law_changed t) (da_cons (de_var 2) (da_cons (de_var 5) da_nil))))
    (dss_cons (ds_expr (de_app (de_var 4) (de_var 6)))
    (dss_one (ds_if (dt_w (dw_or (dt_cmp (op_eqD ck.hu) os_eq (de_ix (de_var 3) de_int) de_str) (dw_or (dt_w (dw_and (dt_cmp (op_eqD ck.hu) os_eq (de_ix (de_var 3) de_int) de_str) (dw_and1 (dt_cmp op_le os_cmpI (de_var 6) (de_var 5))))) (dw_or1 (dt_w (dw_and (dt_cmp (op_eqD ck.hu) os_eq (de_ix (de_var 3) de_int) de_str) (dw_and1 (dt_cmp op_ge os_cmpI (de_var 6) (de_var 5))))))))) (dss_one (ds_retF (de_var 4))) dss_nil)))))))
    (dss_one (ds_retF (de_var 4))))))
theorem h__law_fate (t : Txt K mg) : HasFn P w K mg base T 5 "_law_fate" g__law_fate :=
  fn_okD t.d__law_fate (show FnScope ["one", "worth", "path"] ["one", "worth"] (defScope (topS 52)) from ⟨rfl, rfl, rfl, by decide +kernel, rfl, by decide +kernel, by decide +kernel⟩) fun f cdv A outer s H E ck hp => by
    unfold F__law_fate
    exact (dss_cons (ds_set 2 ck (de_call ck (h__law_path t) (da_cons (de_var 0) (da_cons (de_var 1) da_nil))))
    (dss_one (ds_ret (de_if (dt_cmp (op_eqD ck.hu) os_eq (de_blt call_len bs_len t.z_len PySem.boot_len (da_cons (de_var 2) da_nil)) de_int) (de_tup (da_cons de_non (da_cons de_non da_nil))) (de_tup (da_cons (de_op op_subA os_sub (de_blt call_len bs_len t.z_len PySem.boot_len (da_cons (de_var 2) da_nil)) de_int) (da_cons (de_ix (de_var 2) (de_un un_negA os_neg de_int)) da_nil)))))))
theorem h__law_scaled (t : Txt K mg) : HasFn P w K mg base T 1 "_law_scaled" g__law_scaled :=
  fn_okD t.d__law_scaled (show FnScope ["one", "scale", "more", "change_so", "walk", "rest", "pieces", "low", "high", "word", "by"] ["one", "scale", "more"] (defScope (topS 53)) from ⟨rfl, rfl, rfl, by decide +kernel, rfl, by decide +kernel, by decide +kernel⟩) fun f cdv A outer s H E ck hp => by
    unfold F__law_scaled
    exact (dss_cons (ds_tgt (de_var 0) (dg_tup ck.calm (dgs_cons (dg_name 3 ck.nd) (dgs_cons (dg_name 4 ck.nd) dgs_nil))))
    (dss_cons (ds_set 5 ck (de_if (dt_cmp (op_eqD ck.hu) os_eq (de_ix (de_var 4) de_int) de_str) (de_op op_subA os_sub (de_var 1) de_int) de_int))
    (dss_cons (ds_set 6 ck (de_lstM da_nil))
    (dss_cons (ds_for ck hp (di_seq (de_var 3)) (dg_tup ck.calm (dgs_cons (dg_name 7 ck.nd) (dgs_cons (dg_name 8 ck.nd) (dgs_cons (dg_name 9 ck.nd) (dgs_cons (dg_name 10 ck.nd) dgs_nil))))) (dss_cons (ds_set 7 ck (de_if (dt_isN (de_var 7)) de_non (de_op op_addA os_add (de_op op_mulA os_mul (de_var 7) (de_var 1)) (de_var 2))))
    (dss_cons (ds_set 8 ck (de_if (dt_isN (de_var 8)) de_non (de_op op_addA os_add (de_op op_subA os_sub (de_op op_addA os_add (de_op op_mulA os_mul (de_var 8) (de_var 1)) (de_var 1)) de_int) (de_var 2))))
    (dss_one (ds_expr (de_app (de_var 6) (de_tup (da_cons (de_var 7) (da_cons (de_var 8) (da_cons (de_var 9) (da_cons (de_if (dt_cmp (op_eqD ck.hu) os_eq (de_var 9) de_str) (de_op op_mulA os_mul (de_var 10) (de_var 1)) (de_op op_addA os_add (de_op op_addA os_add (de_op op_mulA os_mul (de_var 10) (de_var 1)) (de_var 5)) (de_var 2))) da_nil)))))))))))
    (dss_cons (ds_if (dt_cmp (op_eqD ck.hu) os_eq (de_blt call_len bs_len t.z_len PySem.boot_len (da_cons (de_var 4) da_nil)) de_int) (dss_one (ds_ret (de_tup (da_cons (de_bty call_tuple_of bs_tup t.z_tuple PyProof.Rows.boot_tuple (da_cons (de_var 6) da_nil)) (da_cons (de_var 4) da_nil))))) dss_nil)
    (dss_cons (ds_set 7 ck (de_if (dt_isN (de_ix (de_var 4) de_int)) de_non (de_op op_addA os_add (de_op op_mulA os_mul (de_ix (de_var 4) de_int) (de_var 1)) (de_var 2))))
    (dss_one (ds_ret (de_tup (da_cons (de_bty call_tuple_of bs_tup t.z_tuple PyProof.Rows.boot_tuple (da_cons (de_var 6) da_nil)) (da_cons (de_tup (da_cons (de_ix (de_var 4) de_int) (da_cons (de_var 7) (da_cons (de_if (dt_isN (de_ix (de_var 4) de_int)) de_non (de_op op_addA os_add (de_op op_subA os_sub (de_op op_addA os_add (de_op op_mulA os_mul (de_ix (de_var 4) de_int) (de_var 1)) (de_var 1)) de_int) (de_var 2))) da_nil)))) da_nil)))))))))))
theorem h__law_far_right (t : Txt K mg) : HasFn P w K mg base T 9 "_law_far_right" g__law_far_right :=
  fn_okD t.d__law_far_right (show FnScope ["one", "worth", "scale", "more", "rest", "far", "begin", "path", "times", "last", "step", "found"] ["one", "worth", "scale", "more", "rest"] (defScope (topS 54)) from ⟨rfl, rfl, rfl, by decide +kernel, rfl, by decide +kernel, by decide +kernel⟩) fun f cdv A outer s H E ck hp => by
    unfold F__law_far_right
    exact (dss_cons (ds_set 5 ck (de_call ck (h__law_scaled t) (da_cons (de_var 0) (da_cons (de_var 2) (da_cons (de_var 3) da_nil)))))
    (dss_cons (ds_par 6 7 ck (de_op op_addA os_add (de_op op_addA os_add (de_op op_mulA os_mul (de_var 1) (de_var 2)) (de_var 4)) (de_var 3)) (de_call ck (h__law_path t) (da_cons (de_var 0) (da_cons (de_var 1) da_nil))))
    (dss_cons (ds_tgt (de_call ck (h_fate t) (da_cons (de_var 5) (da_cons (de_var 6) da_nil))) (dg_tup ck.calm (dgs_cons (dg_name 8 ck.nd) (dgs_cons (dg_name 9 ck.nd) dgs_nil))))
    (dss_cons (ds_if (dt_cmp (op_neD ck.hu) os_ne (de_var 8) (de_ix (de_call ck (h__law_fate t) (da_cons (de_var 0) (da_cons (de_var 1) da_nil))) de_int)) (dss_one (ds_ret de_bl)) dss_nil)
    (dss_cons (ds_if (dt_w (dw_and (dt_notN (de_var 8)) (dw_and1 (dt_cmp (op_neD ck.hu) os_ne (de_op op_fdivA os_div (de_op op_subA os_sub (de_var 9) (de_var 3)) (de_var 2)) (de_ix (de_var 7) (de_un un_negA os_neg de_int)))))) (dss_one (ds_ret de_bl)) dss_nil)
    (dss_cons (ds_for ck hp (di_range1 (de_blt (call_min2 ck.calm) bs_min2 t.z_min PyProof.Rows.boot_min (da_cons de_int (da_cons (de_blt call_len bs_len t.z_len PySem.boot_len (da_cons (de_var 7) da_nil)) da_nil))) t.z_range) (dg_name 10 ck.nd) (dss_cons (ds_set 11 ck (de_call ck (h_behind t) (da_cons (de_var 5) (da_cons (de_var 6) (da_cons (de_var 10) da_nil)))))
    (dss_one (ds_if (dt_w (dw_or (dt_isN (de_var 11)) (dw_or (dt_cmp (op_neD ck.hu) os_ne (de_op op_fdivA os_div (de_op op_subA os_sub (de_var 11) (de_var 3)) (de_var 2)) (de_ix (de_var 7) (de_var 10))) (dw_or1 (dt_w (dw_and (dt_cmp op_gt os_cmpI (de_var 10) de_int) (dw_and1 (dt_isN (de_call ck (h_when_at t) (da_cons (de_var 5) (da_cons (de_var 6) (da_cons (de_var 11) da_nil)))))))))))) (dss_one (ds_ret de_bl)) dss_nil))))
    (dss_one (ds_ret de_bl))))))))
theorem h__law_single (t : Txt K mg) : HasFn P w K mg base T 1 "_law_single" g__law_single :=
  fn_okD t.d__law_single (show FnScope ["low", "high", "step", "worth", "many"] ["low", "high", "step", "worth"] (defScope (topS 55)) from ⟨rfl, rfl, rfl, by decide +kernel, rfl, by decide +kernel, by decide +kernel⟩) fun f cdv A outer s H E ck hp => by
    unfold F__law_single
    exact (dss_cons (ds_if (dt_w (dw_or (dt_cmp op_lt os_cmpI (de_var 3) (de_var 0)) (dw_or1 (dt_cmp op_gt os_cmpI (de_var 3) (de_var 1))))) (dss_one (ds_ret (de_tup (da_cons de_int (da_cons (de_var 3) da_nil))))) dss_nil)
    (dss_cons (ds_set 4 ck (de_op op_addA os_add (de_op op_fdivA os_div (de_op op_subA os_sub (de_var 1) (de_var 3)) (de_var 2)) de_int))
    (dss_one (ds_ret (de_tup (da_cons (de_var 4) (da_cons (de_op op_addA os_add (de_var 3) (de_op op_mulA os_mul (de_var 4) (de_var 2))) da_nil)))))))
theorem ok_law (t : Txt K mg) (l : LTxt K mg base T) {f fd} (tl : DefL K mg base T "law" (topS 56) ["script"] f fd) : FnOk P w K mg base (L2N.CX P w) 10 f fd ["script"] (spD ⟨K, mg, T⟩ g_law) :=
  fn_okF tl (show FnScope ["script", "cell", "drum", "turn", "one", "scale", "more", "part", "worth", "low", "width", "step", "change_so", "due"] ["script"] (defScope (topS 56)) from ⟨rfl, rfl, rfl, by decide +kernel, rfl, by decide +kernel, by decide +kernel⟩) fun f cdv A outer s H E ck hp la => by
    unfold F_law
    exact (dss_cons (ds_for ck hp (di_seq (de_sl (de_op op_addA os_add (de_lst (da_cons de_int da_nil)) (de_var 0)) dp_none (dp_some de_int))) (dg_name 1 ck.nd) (dss_cons (ds_set 2 ck (de_call ck (h__law_drum t) (da_cons (de_var 1) (da_cons de_int da_nil))))
    (dss_cons (ds_for ck hp (di_range1 de_int t.z_range) (dg_name 3 ck.nd) (dss_cons (ds_set 4 ck (de_call ck (h__law_statement t) (da_cons (de_var 2) (da_cons de_int da_nil))))
    (dss_cons (ds_set 5 ck (de_op op_addA os_add de_int (de_op op_mulA os_mul (de_call ck (h__law_roll t) (da_cons (de_var 2) (da_cons (de_op op_pow os_pow de_int de_int) da_nil))) (de_call ck (h__law_some t) (da_cons (de_var 2) (da_cons (de_lst (da_cons de_int (da_cons (de_op op_pow os_pow de_int de_int) (da_cons (de_op op_pow os_pow de_int de_int) da_nil)))) da_nil))))))
    (dss_cons (ds_set 6 ck (de_op op_mulA os_mul (de_op op_subA os_sub (de_call ck (h__law_roll t) (da_cons (de_var 2) (da_cons (de_op op_pow os_pow de_int de_int) da_nil))) (de_op op_mulA os_mul de_int (de_op op_pow os_pow de_int de_int))) (de_call ck (h__law_some t) (da_cons (de_var 2) (da_cons (de_lst (da_cons de_int (da_cons (de_op op_pow os_pow de_int de_int) (da_cons (de_op op_pow os_pow de_int de_int) da_nil)))) da_nil)))))
    (dss_one (ds_for ck hp (di_range1 de_int t.z_range) (dg_name 7 ck.nd) (dss_cons (ds_set 8 ck (de_op op_subA os_sub (de_call ck (h__law_roll t) (da_cons (de_var 2) (da_cons de_int da_nil))) de_int))
    (dss_one (ds_if (dt_not (dt_val (de_call ck (h__law_far_right t) (da_cons (de_var 4) (da_cons (de_var 8) (da_cons (de_var 5) (da_cons (de_var 6) (da_cons (de_call ck (h__law_roll t) (da_cons (de_var 2) (da_cons (de_var 5) da_nil))) da_nil)))))))) (dss_one (ds_ret de_bl)) dss_nil)))))))))
    (dss_cons (ds_par 9 10 ck (de_op op_mulA os_mul (de_call ck (h__law_roll t) (da_cons (de_var 2) (da_cons (de_op op_pow os_pow de_int de_int) da_nil))) (de_op op_pow os_pow de_int de_int)) (de_op op_addA os_add (de_op op_mulA os_mul (de_call ck (h__law_roll t) (da_cons (de_var 2) (da_cons (de_op op_pow os_pow de_int de_int) da_nil))) (de_op op_pow os_pow de_int de_int)) (de_call ck (h__law_roll t) (da_cons (de_var 2) (da_cons (de_op op_pow os_pow de_int de_int) da_nil)))))
    (dss_cons (ds_set 11 ck (de_op op_addA os_add de_int (de_op op_mulA os_mul (de_call ck (h__law_roll t) (da_cons (de_var 2) (da_cons (de_op op_pow os_pow de_int de_int) da_nil))) (de_call ck (h__law_some t) (da_cons (de_var 2) (da_cons (de_lst (da_cons de_int (da_cons (de_op op_pow os_pow de_int de_int) (da_cons (de_op op_pow os_pow de_int de_int) da_nil)))) da_nil))))))
    (dss_one (ds_for ck hp (di_seq (de_tup (da_cons (de_op op_subA os_sub (de_var 9) de_int) (da_cons (de_var 9) (da_cons (de_op op_addA os_add (de_var 9) (de_op op_fdivA os_div (de_var 10) de_int)) (da_cons (de_op op_addA os_add (de_var 9) (de_var 10)) (da_cons (de_op op_addA os_add (de_op op_addA os_add (de_var 9) (de_var 10)) de_int) da_nil))))))) (dg_name 8 ck.nd) (dss_cons (ds_set 12 ck (de_tup (da_cons (de_tup (da_cons (de_var 9) (da_cons (de_op op_addA os_add (de_var 9) (de_var 10)) (da_cons de_str (da_cons (de_var 11) da_nil))))) da_nil)))
    (dss_cons (ds_set 13 ck (de_call ck (h__law_single t) (da_cons (de_var 9) (da_cons (de_op op_addA os_add (de_var 9) (de_var 10)) (da_cons (de_var 11) (da_cons (de_var 8) da_nil))))))
    (dss_cons (ds_if (dt_w (dw_or (dt_cmp (op_neD ck.hu) os_ne (de_call ck (h_fate t) (da_cons (de_tup (da_cons (de_var 12) (da_cons (de_tup (da_cons de_str (da_cons de_non (da_cons de_non da_nil)))) da_nil))) (da_cons (de_var 8) da_nil))) (de_var 13)) (dw_or1 (dt_cmp (op_neD ck.hu) os_ne (de_call ck (h_fate t) (da_cons (de_tup (da_cons (de_var 12) (da_cons (de_tup (da_cons de_str da_nil)) da_nil))) (da_cons (de_var 8) da_nil))) (de_var 13))))) (dss_one (ds_ret de_bl)) dss_nil)
    (dss_cons (ds_if (dt_cmp (op_neD ck.hu) os_ne (de_call ck (h_fate t) (da_cons (de_tup (da_cons (de_var 12) (da_cons (de_tup (da_cons de_str da_nil)) da_nil))) (da_cons (de_var 8) da_nil))) (de_tup (da_cons (de_blt (call_min2 ck.calm) bs_min2 t.z_min PyProof.Rows.boot_min (da_cons de_int (da_cons (de_ix (de_var 13) de_int) da_nil))) (da_cons (de_op op_addA os_add (de_var 8) (de_op op_mulA os_mul (de_blt (call_min2 ck.calm) bs_min2 t.z_min PyProof.Rows.boot_min (da_cons de_int (da_cons (de_ix (de_var 13) de_int) da_nil))) (de_var 11))) da_nil)))) (dss_one (ds_ret de_bl)) dss_nil)
    (dss_one (ds_if (dt_w (dw_and (dt_cmp op_gt os_cmpI (de_ix (de_var 13) de_int) de_int) (dw_and1 (dt_cmp (op_neD ck.hu) os_ne (de_call ck (h_behind t) (da_cons (de_tup (da_cons (de_var 12) (da_cons (de_tup (da_cons de_str da_nil)) da_nil))) (da_cons (de_var 8) (da_cons (de_op op_fdivA os_div (de_ix (de_var 13) de_int) de_int) da_nil)))) (de_op op_addA os_add (de_var 8) (de_op op_mulA os_mul (de_op op_fdivA os_div (de_ix (de_var 13) de_int) de_int) (de_var 11))))))) (dss_one (ds_ret de_bl)) dss_nil)))))))))))))
    (dss_cons (ds_set 13 ck (de_tup (da_cons de_int (da_cons (de_op op_addA os_add (de_op op_pow os_pow de_int de_int) de_int) da_nil))))
    (dss_one (ds_ret (de_cmp (op_eqD ck.hu) os_eq (de_call ck (h_fate t) (da_cons (de_tup (da_cons (de_tup (da_cons (de_tup (da_cons de_non (da_cons (de_op op_pow os_pow de_int de_int) (da_cons de_str (da_cons de_int da_nil))))) da_nil)) (da_cons (de_tup (da_cons de_str (da_cons de_non (da_cons de_non da_nil)))) da_nil))) (da_cons de_int da_nil))) (de_var 13))))))
end
end Wlk

set_option linter.all false
set_option Elab.async false
set_option maxRecDepth 100000
set_option maxHeartbeats 0
/-! The head (printed by gen.py). -/
namespace Hd
open PySem PySem.Spec PyProof.Rows L2 Mi L3 Mir Wlk
def D_is_whole : He.DefD := ⟨("is_whole", none), "is_whole", "is_whole", defArgs (topS 7), defBody (topS 7), defScope (topS 7), [], []⟩
def D_is_end : He.DefD := ⟨("is_end", none), "is_end", "is_end", defArgs (topS 8), defBody (topS 8), defScope (topS 8), [], []⟩
def D_are_ends : He.DefD := ⟨("are_ends", none), "are_ends", "are_ends", defArgs (topS 9), defBody (topS 9), defScope (topS 9), [], []⟩
def D_is_piece : He.DefD := ⟨("is_piece", none), "is_piece", "is_piece", defArgs (topS 10), defBody (topS 10), defScope (topS 10), [], []⟩
def D_are_apart : He.DefD := ⟨("are_apart", none), "are_apart", "are_apart", defArgs (topS 11), defBody (topS 11), defScope (topS 11), [], []⟩
def D_fits_change : He.DefD := ⟨("fits_change", none), "fits_change", "fits_change", defArgs (topS 12), defBody (topS 12), defScope (topS 12), [], []⟩
def D_need_worth : He.DefD := ⟨("need_worth", none), "need_worth", "need_worth", defArgs (topS 13), defBody (topS 13), defScope (topS 13), [.int (-1000000000000000000000000000000)], []⟩
def D_need_times : He.DefD := ⟨("need_times", none), "need_times", "need_times", defArgs (topS 14), defBody (topS 14), defScope (topS 14), [], []⟩
def D_has : He.DefD := ⟨("has", none), "has", "has", defArgs (topS 15), defBody (topS 15), defScope (topS 15), [], []⟩
def D_piece_of : He.DefD := ⟨("piece_of", none), "piece_of", "piece_of", defArgs (topS 16), defBody (topS 16), defScope (topS 16), [], []⟩
def D_made : He.DefD := ⟨("made", none), "made", "made", defArgs (topS 17), defBody (topS 17), defScope (topS 17), [], []⟩
def D_is_walk : He.DefD := ⟨("is_walk", none), "is_walk", "is_walk", defArgs (topS 20), defBody (topS 20), defScope (topS 20), [], []⟩
def D_one_way : He.DefD := ⟨("one_way", none), "one_way", "one_way", defArgs (topS 21), defBody (topS 21), defScope (topS 21), [], []⟩
def D_fits_statement : He.DefD := ⟨("fits_statement", none), "fits_statement", "fits_statement", defArgs (topS 22), defBody (topS 22), defScope (topS 22), [], []⟩
def D_need_statement : He.DefD := ⟨("need_statement", none), "need_statement", "need_statement", defArgs (topS 23), defBody (topS 23), defScope (topS 23), [], []⟩
def D_turned_end : He.DefD := ⟨("turned_end", none), "turned_end", "turned_end", defArgs (topS 24), defBody (topS 24), defScope (topS 24), [], []⟩
def D_turned : He.DefD := ⟨("turned", none), "turned", "turned", defArgs (topS 25), defBody (topS 25), defScope (topS 25), [], []⟩
def D_goes_down : He.DefD := ⟨("goes_down", none), "goes_down", "goes_down", defArgs (topS 26), defBody (topS 26), defScope (topS 26), [], []⟩
def D_risen : He.DefD := ⟨("risen", none), "risen", "risen", defArgs (topS 27), defBody (topS 27), defScope (topS 27), [], []⟩
def D_sign_of : He.DefD := ⟨("sign_of", none), "sign_of", "sign_of", defArgs (topS 28), defBody (topS 28), defScope (topS 28), [], []⟩
def D_in_walk : He.DefD := ⟨("in_walk", none), "in_walk", "in_walk", defArgs (topS 29), defBody (topS 29), defScope (topS 29), [], []⟩
def D_again : He.DefD := ⟨("again", none), "again", "again", defArgs (topS 30), defBody (topS 30), defScope (topS 30), [], []⟩
def D_roof_of : He.DefD := ⟨("roof_of", none), "roof_of", "roof_of", defArgs (topS 31), defBody (topS 31), defScope (topS 31), [], []⟩
def D_runs_of : He.DefD := ⟨("runs_of", none), "runs_of", "runs_of", defArgs (topS 32), defBody (topS 32), defScope (topS 32), [], []⟩
def D_round_at : He.DefD := ⟨("round_at", none), "round_at", "round_at", defArgs (topS 33), defBody (topS 33), defScope (topS 33), [], []⟩
def D_goes_round : He.DefD := ⟨("goes_round", none), "goes_round", "goes_round", defArgs (topS 34), defBody (topS 34), defScope (topS 34), [], []⟩
def D_fate_of : He.DefD := ⟨("fate_of", none), "fate_of", "fate_of", defArgs (topS 35), defBody (topS 35), defScope (topS 35), [], []⟩
def D_behind_of : He.DefD := ⟨("behind_of", none), "behind_of", "behind_of", defArgs (topS 36), defBody (topS 36), defScope (topS 36), [], []⟩
def D_when_of : He.DefD := ⟨("when_of", none), "when_of", "when_of", defArgs (topS 37), defBody (topS 37), defScope (topS 37), [], []⟩
def D_fate : He.DefD := ⟨("fate", none), "fate", "fate", defArgs (topS 38), defBody (topS 38), defScope (topS 38), [], []⟩
def D_behind : He.DefD := ⟨("behind", none), "behind", "behind", defArgs (topS 39), defBody (topS 39), defScope (topS 39), [], []⟩
def D_when_at : He.DefD := ⟨("when_at", none), "when_at", "when_at", defArgs (topS 40), defBody (topS 40), defScope (topS 40), [], []⟩
def D__law_drum : He.DefD := ⟨("_law_drum", none), "_law_drum", "_law_drum", defArgs (topS 42), defBody (topS 42), defScope (topS 42), [], []⟩
def D__law_roll : He.DefD := ⟨("_law_roll", none), "_law_roll", "_law_roll", defArgs (topS 43), defBody (topS 43), defScope (topS 43), [], []⟩
def D__law_some : He.DefD := ⟨("_law_some", none), "_law_some", "_law_some", defArgs (topS 44), defBody (topS 44), defScope (topS 44), [], []⟩
def D__law_change : He.DefD := ⟨("_law_change", none), "_law_change", "_law_change", defArgs (topS 45), defBody (topS 45), defScope (topS 45), [], []⟩
def D__law_one_way : He.DefD := ⟨("_law_one_way", none), "_law_one_way", "_law_one_way", defArgs (topS 46), defBody (topS 46), defScope (topS 46), [], []⟩
def D__law_statement : He.DefD := ⟨("_law_statement", none), "_law_statement", "_law_statement", defArgs (topS 47), defBody (topS 47), defScope (topS 47), [], []⟩
def D__law_has : He.DefD := ⟨("_law_has", none), "_law_has", "_law_has", defArgs (topS 48), defBody (topS 48), defScope (topS 48), [], []⟩
def D__law_piece : He.DefD := ⟨("_law_piece", none), "_law_piece", "_law_piece", defArgs (topS 49), defBody (topS 49), defScope (topS 49), [], []⟩
def D__law_changed : He.DefD := ⟨("_law_changed", none), "_law_changed", "_law_changed", defArgs (topS 50), defBody (topS 50), defScope (topS 50), [], []⟩
def D__law_path : He.DefD := ⟨("_law_path", none), "_law_path", "_law_path", defArgs (topS 51), defBody (topS 51), defScope (topS 51), [], []⟩
def D__law_fate : He.DefD := ⟨("_law_fate", none), "_law_fate", "_law_fate", defArgs (topS 52), defBody (topS 52), defScope (topS 52), [], []⟩
def D__law_scaled : He.DefD := ⟨("_law_scaled", none), "_law_scaled", "_law_scaled", defArgs (topS 53), defBody (topS 53), defScope (topS 53), [], []⟩
def D__law_far_right : He.DefD := ⟨("_law_far_right", none), "_law_far_right", "_law_far_right", defArgs (topS 54), defBody (topS 54), defScope (topS 54), [], []⟩
def D__law_single : He.DefD := ⟨("_law_single", none), "_law_single", "_law_single", defArgs (topS 55), defBody (topS 55), defScope (topS 55), [], []⟩
def D_law : He.DefD := ⟨("law", none), "law", "law", defArgs (topS 56), defBody (topS 56), defScope (topS 56), [], []⟩
def fn : List He.DefD := ([D_is_whole, D_is_end, D_are_ends, D_is_piece, D_are_apart, D_fits_change, D_need_worth, D_need_times, D_has, D_piece_of, D_made, D_is_walk, D_one_way, D_fits_statement, D_need_statement, D_turned_end, D_turned, D_goes_down, D_risen, D_sign_of] : List He.DefD) ++ ([D_in_walk, D_again, D_roof_of, D_runs_of, D_round_at, D_goes_round, D_fate_of, D_behind_of, D_when_of, D_fate, D_behind, D_when_at, D__law_drum, D__law_roll, D__law_some, D__law_change, D__law_one_way, D__law_statement, D__law_has, D__law_piece] : List He.DefD) ++ ([D__law_changed, D__law_path, D__law_fate, D__law_scaled, D__law_far_right, D__law_single, D_law] : List He.DefD)
def fa : List He.Fa := ([.glo "is_whole", .glo "is_end", .glo "are_ends", .glo "is_piece", .glo "are_apart", .glo "fits_change", .glo "need_worth", .glo "need_times", .glo "has", .glo "piece_of", .glo "made", .glo "is_walk", .glo "one_way", .glo "fits_statement", .glo "need_statement", .glo "turned_end", .glo "turned", .glo "goes_down", .glo "risen", .glo "sign_of"] : List He.Fa) ++ ([.glo "in_walk", .glo "again", .glo "roof_of", .glo "runs_of", .glo "round_at", .glo "goes_round", .glo "fate_of", .glo "behind_of", .glo "when_of", .glo "fate", .glo "behind", .glo "when_at", .glo "_law_drum", .glo "_law_roll", .glo "_law_some", .glo "_law_change", .glo "_law_one_way", .glo "_law_statement", .glo "_law_has", .glo "_law_piece"] : List He.Fa) ++ ([.glo "_law_changed", .glo "_law_path", .glo "_law_fate", .glo "_law_scaled", .glo "_law_far_right", .glo "_law_single", .glo "law", .glo "InvalidStatement", .glo "InvalidWorth", .glo "InvalidNumber", .glo "WALKS", .free "abs", .free "all", .free "bool", .free "int", .free "isinstance", .free "len", .free "min", .free "range", .free "sorted"] : List He.Fa) ++ ([.free "str", .free "sum", .free "tuple", .int "FAR" (1000000000000000000000000000000), .exc "InvalidStatement", .exc "InvalidWorth", .exc "InvalidNumber"] : List He.Fa)
def lamd : List Str := ["law"]
def ex (K : PySem.W.Frag) : Bool := (noLists K && (apartB K lamd && He.tupB K "WALKS" ((["up", "down", "first", "place"] : List Str).map He.Dv.str)))
def loose : List Str := (["WalkError", "InvalidStatement", "InvalidWorth", "InvalidNumber", "FAR", "is_whole", "is_end", "are_ends", "is_piece", "are_apart", "fits_change", "need_worth", "need_times", "has", "piece_of", "made", "WALKS", "is_walk", "one_way", "fits_statement"] : List Str) ++ (["need_statement", "turned_end", "turned", "goes_down", "risen", "sign_of", "in_walk", "again", "roof_of", "runs_of", "round_at", "goes_round", "fate_of", "behind_of", "when_of", "fate", "behind", "when_at", "_law_drum", "_law_roll"] : List Str) ++ (["_law_some", "_law_change", "_law_one_way", "_law_statement", "_law_has", "_law_piece", "_law_changed", "_law_path", "_law_fate", "_law_scaled", "_law_far_right", "_law_single"] : List Str)
abbrev R : PySem.W.OpenRow := PySem.W.OpenLaw.row PySem.Challenge.rw_metagain_k05_whole_fates_of_thirty_figur
abbrev hk : PySem.W.Hook := He.hookX 4 fa fn [] [("law", none)] ex
def ob (s : PySem.W.SharedT) : He.AlX := He.obsX 4 fa fn [] [("law", none)] ex (HandSHeadRun.getT s)
theorem ob_eq (s : PySem.W.SharedT) : ob s = hk.obs s.abs := He.obsX_eq (HandSHeadRun.getT_eq s)
theorem run (w : World) : HandSHeadRun.RunEq R (PySem.W.view R.prog [56]) hk ob 9000 loose w := by
  intro os
  kernel_rfl

section
variable {K : PySem.W.Frag} {mg : Str → Option Value} {h : Heap} {w : World}
theorem txt (X : K.In h) (G : h.Ns mainGlobals mg) (c : He.SaysD fa fn K) (ha : apartB K lamd = true) (mt0 : He.tupB K "WALKS" ((["up", "down", "first", "place"] : List Str).map He.Dv.str) = true) : Txt K mg := by
  exact {
    d_is_whole := by
      obtain ⟨fd, F⟩ := c.def_ 0 (d := D_is_whole) rfl
      exact ⟨⟨_, fd, _, _, F, (He.glo_ok X G (c.fact 0 (f := .glo "is_whole") rfl)), F.bindsN fun _ _ _ _ _ _ us hl => match us, hl with | [_, _, _], _ => rfl⟩⟩
    d_is_end := by
      obtain ⟨fd, F⟩ := c.def_ 1 (d := D_is_end) rfl
      exact ⟨⟨_, fd, _, _, F, (He.glo_ok X G (c.fact 1 (f := .glo "is_end") rfl)), F.bindsN fun _ _ _ _ _ _ us hl => match us, hl with | [_], _ => rfl⟩⟩
    d_are_ends := by
      obtain ⟨fd, F⟩ := c.def_ 2 (d := D_are_ends) rfl
      exact ⟨⟨_, fd, _, _, F, (He.glo_ok X G (c.fact 2 (f := .glo "are_ends") rfl)), F.bindsN fun _ _ _ _ _ _ us hl => match us, hl with | [_, _], _ => rfl⟩⟩
    d_is_piece := by
      obtain ⟨fd, F⟩ := c.def_ 3 (d := D_is_piece) rfl
      exact ⟨⟨_, fd, _, _, F, (He.glo_ok X G (c.fact 3 (f := .glo "is_piece") rfl)), F.bindsN fun _ _ _ _ _ _ us hl => match us, hl with | [_], _ => rfl⟩⟩
    d_are_apart := by
      obtain ⟨fd, F⟩ := c.def_ 4 (d := D_are_apart) rfl
      exact ⟨⟨_, fd, _, _, F, (He.glo_ok X G (c.fact 4 (f := .glo "are_apart") rfl)), F.bindsN fun _ _ _ _ _ _ us hl => match us, hl with | [_, _], _ => rfl⟩⟩
    d_fits_change := by
      obtain ⟨fd, F⟩ := c.def_ 5 (d := D_fits_change) rfl
      exact ⟨⟨_, fd, _, _, F, (He.glo_ok X G (c.fact 5 (f := .glo "fits_change") rfl)), F.bindsN fun _ _ _ _ _ _ us hl => match us, hl with | [_], _ => rfl⟩⟩
    d_need_worth := by
      obtain ⟨fd, F⟩ := c.def_ 6 (d := D_need_worth) rfl
      obtain ⟨ds, v, b⟩ := F.binds1 (ps := ["value", "low"]) 2 1 (by intro z; cases z) rfl (fun _ _ _ _ _ _ _ us its hl hi => match us, its, hl, hi with | [_, _], [_], _, _ => ⟨_, rfl, rfl⟩)
      cases v
      exact ⟨⟨_, fd, _, _, F, (He.glo_ok X G (c.fact 6 (f := .glo "need_worth") rfl)), b⟩⟩
    e_need_worth := by
      obtain ⟨fd, F⟩ := c.def_ 6 (d := D_need_worth) rfl
      obtain ⟨ds, v, b⟩ := F.binds1 (ps := ["value", "low"]) 1 0 (by intro z; cases z) rfl (fun _ _ _ _ _ _ _ us its hl hi => match us, its, hl, hi with | [_], [_], _, _ => ⟨_, rfl, rfl⟩)
      exact ⟨⟨_, fd, _, _, ds, F, (He.glo_ok X G (c.fact 6 (f := .glo "need_worth") rfl)), b, v, fun _ _ => (.cons (.int _) .nil)⟩⟩
    d_need_times := by
      obtain ⟨fd, F⟩ := c.def_ 7 (d := D_need_times) rfl
      exact ⟨⟨_, fd, _, _, F, (He.glo_ok X G (c.fact 7 (f := .glo "need_times") rfl)), F.bindsN fun _ _ _ _ _ _ us hl => match us, hl with | [_], _ => rfl⟩⟩
    d_has := by
      obtain ⟨fd, F⟩ := c.def_ 8 (d := D_has) rfl
      exact ⟨⟨_, fd, _, _, F, (He.glo_ok X G (c.fact 8 (f := .glo "has") rfl)), F.bindsN fun _ _ _ _ _ _ us hl => match us, hl with | [_, _], _ => rfl⟩⟩
    d_piece_of := by
      obtain ⟨fd, F⟩ := c.def_ 9 (d := D_piece_of) rfl
      exact ⟨⟨_, fd, _, _, F, (He.glo_ok X G (c.fact 9 (f := .glo "piece_of") rfl)), F.bindsN fun _ _ _ _ _ _ us hl => match us, hl with | [_, _], _ => rfl⟩⟩
    d_made := by
      obtain ⟨fd, F⟩ := c.def_ 10 (d := D_made) rfl
      exact ⟨⟨_, fd, _, _, F, (He.glo_ok X G (c.fact 10 (f := .glo "made") rfl)), F.bindsN fun _ _ _ _ _ _ us hl => match us, hl with | [_, _], _ => rfl⟩⟩
    d_is_walk := by
      obtain ⟨fd, F⟩ := c.def_ 11 (d := D_is_walk) rfl
      exact ⟨⟨_, fd, _, _, F, (He.glo_ok X G (c.fact 11 (f := .glo "is_walk") rfl)), F.bindsN fun _ _ _ _ _ _ us hl => match us, hl with | [_], _ => rfl⟩⟩
    d_one_way := by
      obtain ⟨fd, F⟩ := c.def_ 12 (d := D_one_way) rfl
      exact ⟨⟨_, fd, _, _, F, (He.glo_ok X G (c.fact 12 (f := .glo "one_way") rfl)), F.bindsN fun _ _ _ _ _ _ us hl => match us, hl with | [_], _ => rfl⟩⟩
    d_fits_statement := by
      obtain ⟨fd, F⟩ := c.def_ 13 (d := D_fits_statement) rfl
      exact ⟨⟨_, fd, _, _, F, (He.glo_ok X G (c.fact 13 (f := .glo "fits_statement") rfl)), F.bindsN fun _ _ _ _ _ _ us hl => match us, hl with | [_], _ => rfl⟩⟩
    d_need_statement := by
      obtain ⟨fd, F⟩ := c.def_ 14 (d := D_need_statement) rfl
      exact ⟨⟨_, fd, _, _, F, (He.glo_ok X G (c.fact 14 (f := .glo "need_statement") rfl)), F.bindsN fun _ _ _ _ _ _ us hl => match us, hl with | [_], _ => rfl⟩⟩
    d_turned_end := by
      obtain ⟨fd, F⟩ := c.def_ 15 (d := D_turned_end) rfl
      exact ⟨⟨_, fd, _, _, F, (He.glo_ok X G (c.fact 15 (f := .glo "turned_end") rfl)), F.bindsN fun _ _ _ _ _ _ us hl => match us, hl with | [_], _ => rfl⟩⟩
    d_turned := by
      obtain ⟨fd, F⟩ := c.def_ 16 (d := D_turned) rfl
      exact ⟨⟨_, fd, _, _, F, (He.glo_ok X G (c.fact 16 (f := .glo "turned") rfl)), F.bindsN fun _ _ _ _ _ _ us hl => match us, hl with | [_], _ => rfl⟩⟩
    d_goes_down := by
      obtain ⟨fd, F⟩ := c.def_ 17 (d := D_goes_down) rfl
      exact ⟨⟨_, fd, _, _, F, (He.glo_ok X G (c.fact 17 (f := .glo "goes_down") rfl)), F.bindsN fun _ _ _ _ _ _ us hl => match us, hl with | [_], _ => rfl⟩⟩
    d_risen := by
      obtain ⟨fd, F⟩ := c.def_ 18 (d := D_risen) rfl
      exact ⟨⟨_, fd, _, _, F, (He.glo_ok X G (c.fact 18 (f := .glo "risen") rfl)), F.bindsN fun _ _ _ _ _ _ us hl => match us, hl with | [_], _ => rfl⟩⟩
    d_sign_of := by
      obtain ⟨fd, F⟩ := c.def_ 19 (d := D_sign_of) rfl
      exact ⟨⟨_, fd, _, _, F, (He.glo_ok X G (c.fact 19 (f := .glo "sign_of") rfl)), F.bindsN fun _ _ _ _ _ _ us hl => match us, hl with | [_], _ => rfl⟩⟩
    d_in_walk := by
      obtain ⟨fd, F⟩ := c.def_ 20 (d := D_in_walk) rfl
      exact ⟨⟨_, fd, _, _, F, (He.glo_ok X G (c.fact 20 (f := .glo "in_walk") rfl)), F.bindsN fun _ _ _ _ _ _ us hl => match us, hl with | [_, _], _ => rfl⟩⟩
    d_again := by
      obtain ⟨fd, F⟩ := c.def_ 21 (d := D_again) rfl
      exact ⟨⟨_, fd, _, _, F, (He.glo_ok X G (c.fact 21 (f := .glo "again") rfl)), F.bindsN fun _ _ _ _ _ _ us hl => match us, hl with | [_, _, _], _ => rfl⟩⟩
    d_roof_of := by
      obtain ⟨fd, F⟩ := c.def_ 22 (d := D_roof_of) rfl
      exact ⟨⟨_, fd, _, _, F, (He.glo_ok X G (c.fact 22 (f := .glo "roof_of") rfl)), F.bindsN fun _ _ _ _ _ _ us hl => match us, hl with | [_, _], _ => rfl⟩⟩
    d_runs_of := by
      obtain ⟨fd, F⟩ := c.def_ 23 (d := D_runs_of) rfl
      exact ⟨⟨_, fd, _, _, F, (He.glo_ok X G (c.fact 23 (f := .glo "runs_of") rfl)), F.bindsN fun _ _ _ _ _ _ us hl => match us, hl with | [_, _], _ => rfl⟩⟩
    d_round_at := by
      obtain ⟨fd, F⟩ := c.def_ 24 (d := D_round_at) rfl
      exact ⟨⟨_, fd, _, _, F, (He.glo_ok X G (c.fact 24 (f := .glo "round_at") rfl)), F.bindsN fun _ _ _ _ _ _ us hl => match us, hl with | [_], _ => rfl⟩⟩
    d_goes_round := by
      obtain ⟨fd, F⟩ := c.def_ 25 (d := D_goes_round) rfl
      exact ⟨⟨_, fd, _, _, F, (He.glo_ok X G (c.fact 25 (f := .glo "goes_round") rfl)), F.bindsN fun _ _ _ _ _ _ us hl => match us, hl with | [_, _], _ => rfl⟩⟩
    d_fate_of := by
      obtain ⟨fd, F⟩ := c.def_ 26 (d := D_fate_of) rfl
      exact ⟨⟨_, fd, _, _, F, (He.glo_ok X G (c.fact 26 (f := .glo "fate_of") rfl)), F.bindsN fun _ _ _ _ _ _ us hl => match us, hl with | [_, _], _ => rfl⟩⟩
    d_behind_of := by
      obtain ⟨fd, F⟩ := c.def_ 27 (d := D_behind_of) rfl
      exact ⟨⟨_, fd, _, _, F, (He.glo_ok X G (c.fact 27 (f := .glo "behind_of") rfl)), F.bindsN fun _ _ _ _ _ _ us hl => match us, hl with | [_, _, _], _ => rfl⟩⟩
    d_when_of := by
      obtain ⟨fd, F⟩ := c.def_ 28 (d := D_when_of) rfl
      exact ⟨⟨_, fd, _, _, F, (He.glo_ok X G (c.fact 28 (f := .glo "when_of") rfl)), F.bindsN fun _ _ _ _ _ _ us hl => match us, hl with | [_, _, _], _ => rfl⟩⟩
    d_fate := by
      obtain ⟨fd, F⟩ := c.def_ 29 (d := D_fate) rfl
      exact ⟨⟨_, fd, _, _, F, (He.glo_ok X G (c.fact 29 (f := .glo "fate") rfl)), F.bindsN fun _ _ _ _ _ _ us hl => match us, hl with | [_, _], _ => rfl⟩⟩
    d_behind := by
      obtain ⟨fd, F⟩ := c.def_ 30 (d := D_behind) rfl
      exact ⟨⟨_, fd, _, _, F, (He.glo_ok X G (c.fact 30 (f := .glo "behind") rfl)), F.bindsN fun _ _ _ _ _ _ us hl => match us, hl with | [_, _, _], _ => rfl⟩⟩
    d_when_at := by
      obtain ⟨fd, F⟩ := c.def_ 31 (d := D_when_at) rfl
      exact ⟨⟨_, fd, _, _, F, (He.glo_ok X G (c.fact 31 (f := .glo "when_at") rfl)), F.bindsN fun _ _ _ _ _ _ us hl => match us, hl with | [_, _, _], _ => rfl⟩⟩
    d__law_drum := by
      obtain ⟨fd, F⟩ := c.def_ 32 (d := D__law_drum) rfl
      exact ⟨⟨_, fd, _, _, F, (He.glo_ok X G (c.fact 32 (f := .glo "_law_drum") rfl)), F.bindsN fun _ _ _ _ _ _ us hl => match us, hl with | [_, _], _ => rfl⟩⟩
    d__law_roll := by
      obtain ⟨fd, F⟩ := c.def_ 33 (d := D__law_roll) rfl
      exact ⟨⟨_, fd, _, _, F, (He.glo_ok X G (c.fact 33 (f := .glo "_law_roll") rfl)), F.bindsN fun _ _ _ _ _ _ us hl => match us, hl with | [_, _], _ => rfl⟩⟩
    d__law_some := by
      obtain ⟨fd, F⟩ := c.def_ 34 (d := D__law_some) rfl
      exact ⟨⟨_, fd, _, _, F, (He.glo_ok X G (c.fact 34 (f := .glo "_law_some") rfl)), F.bindsN fun _ _ _ _ _ _ us hl => match us, hl with | [_, _], _ => rfl⟩⟩
    d__law_change := by
      obtain ⟨fd, F⟩ := c.def_ 35 (d := D__law_change) rfl
      exact ⟨⟨_, fd, _, _, F, (He.glo_ok X G (c.fact 35 (f := .glo "_law_change") rfl)), F.bindsN fun _ _ _ _ _ _ us hl => match us, hl with | [_, _], _ => rfl⟩⟩
    d__law_one_way := by
      obtain ⟨fd, F⟩ := c.def_ 36 (d := D__law_one_way) rfl
      exact ⟨⟨_, fd, _, _, F, (He.glo_ok X G (c.fact 36 (f := .glo "_law_one_way") rfl)), F.bindsN fun _ _ _ _ _ _ us hl => match us, hl with | [_], _ => rfl⟩⟩
    d__law_statement := by
      obtain ⟨fd, F⟩ := c.def_ 37 (d := D__law_statement) rfl
      exact ⟨⟨_, fd, _, _, F, (He.glo_ok X G (c.fact 37 (f := .glo "_law_statement") rfl)), F.bindsN fun _ _ _ _ _ _ us hl => match us, hl with | [_, _], _ => rfl⟩⟩
    d__law_has := by
      obtain ⟨fd, F⟩ := c.def_ 38 (d := D__law_has) rfl
      exact ⟨⟨_, fd, _, _, F, (He.glo_ok X G (c.fact 38 (f := .glo "_law_has") rfl)), F.bindsN fun _ _ _ _ _ _ us hl => match us, hl with | [_, _, _], _ => rfl⟩⟩
    d__law_piece := by
      obtain ⟨fd, F⟩ := c.def_ 39 (d := D__law_piece) rfl
      exact ⟨⟨_, fd, _, _, F, (He.glo_ok X G (c.fact 39 (f := .glo "_law_piece") rfl)), F.bindsN fun _ _ _ _ _ _ us hl => match us, hl with | [_, _], _ => rfl⟩⟩
    d__law_changed := by
      obtain ⟨fd, F⟩ := c.def_ 40 (d := D__law_changed) rfl
      exact ⟨⟨_, fd, _, _, F, (He.glo_ok X G (c.fact 40 (f := .glo "_law_changed") rfl)), F.bindsN fun _ _ _ _ _ _ us hl => match us, hl with | [_, _], _ => rfl⟩⟩
    d__law_path := by
      obtain ⟨fd, F⟩ := c.def_ 41 (d := D__law_path) rfl
      exact ⟨⟨_, fd, _, _, F, (He.glo_ok X G (c.fact 41 (f := .glo "_law_path") rfl)), F.bindsN fun _ _ _ _ _ _ us hl => match us, hl with | [_, _], _ => rfl⟩⟩
    d__law_fate := by
      obtain ⟨fd, F⟩ := c.def_ 42 (d := D__law_fate) rfl
      exact ⟨⟨_, fd, _, _, F, (He.glo_ok X G (c.fact 42 (f := .glo "_law_fate") rfl)), F.bindsN fun _ _ _ _ _ _ us hl => match us, hl with | [_, _], _ => rfl⟩⟩
    d__law_scaled := by
      obtain ⟨fd, F⟩ := c.def_ 43 (d := D__law_scaled) rfl
      exact ⟨⟨_, fd, _, _, F, (He.glo_ok X G (c.fact 43 (f := .glo "_law_scaled") rfl)), F.bindsN fun _ _ _ _ _ _ us hl => match us, hl with | [_, _, _], _ => rfl⟩⟩
    d__law_far_right := by
      obtain ⟨fd, F⟩ := c.def_ 44 (d := D__law_far_right) rfl
      exact ⟨⟨_, fd, _, _, F, (He.glo_ok X G (c.fact 44 (f := .glo "_law_far_right") rfl)), F.bindsN fun _ _ _ _ _ _ us hl => match us, hl with | [_, _, _, _, _], _ => rfl⟩⟩
    d__law_single := by
      obtain ⟨fd, F⟩ := c.def_ 45 (d := D__law_single) rfl
      exact ⟨⟨_, fd, _, _, F, (He.glo_ok X G (c.fact 45 (f := .glo "_law_single") rfl)), F.bindsN fun _ _ _ _ _ _ us hl => match us, hl with | [_, _, _, _], _ => rfl⟩⟩
    z_abs := He.free_ok X G (c.fact 51 (f := .free "abs") rfl)
    z_all := He.free_ok X G (c.fact 52 (f := .free "all") rfl)
    z_bool := He.free_ok X G (c.fact 53 (f := .free "bool") rfl)
    z_int := He.free_ok X G (c.fact 54 (f := .free "int") rfl)
    z_isinstance := He.free_ok X G (c.fact 55 (f := .free "isinstance") rfl)
    z_len := He.free_ok X G (c.fact 56 (f := .free "len") rfl)
    z_min := He.free_ok X G (c.fact 57 (f := .free "min") rfl)
    z_range := He.free_ok X G (c.fact 58 (f := .free "range") rfl)
    z_sorted := He.free_ok X G (c.fact 59 (f := .free "sorted") rfl)
    z_str := He.free_ok X G (c.fact 60 (f := .free "str") rfl)
    z_sum := He.free_ok X G (c.fact 61 (f := .free "sum") rfl)
    z_tuple := He.free_ok X G (c.fact 62 (f := .free "tuple") rfl)
    c_FAR := He.int_ok X G (c.fact 63 (f := .int "FAR" (1000000000000000000000000000000)) rfl)
    c_WALKS := gtup_ok (ys := ["up", "down", "first", "place"]) mt0 (He.glo_ok X G (c.fact 50 (f := .glo "WALKS") rfl))
    x_InvalidStatement := ownEx_ok (c.fact 64 (f := .exc "InvalidStatement") rfl) (He.glo_ok X G (c.fact 47 (f := .glo "InvalidStatement") rfl))
    x_InvalidWorth := ownEx_ok (c.fact 65 (f := .exc "InvalidWorth") rfl) (He.glo_ok X G (c.fact 48 (f := .glo "InvalidWorth") rfl))
    x_InvalidNumber := ownEx_ok (c.fact 66 (f := .exc "InvalidNumber") rfl) (He.glo_ok X G (c.fact 49 (f := .glo "InvalidNumber") rfl)) }
theorem at_law {mg : Str → Option Value} {fa0 : Addr} (X : K.In h) (G : h.Ns mainGlobals mg) (c : He.SaysX fa fn [] [("law", none)] ex w h K) (hfa : mg "law" = some (.ref fa0))
    (pure : ∀ ns : List Int, ns.length ≤ 63 → (∀ z ∈ ns, Builtin.Int.intBits z ≤ 1048576) → g_law [.d (.list (ns.map .int))] [] = .ok (.d (.bool true)) []) : LamX.LawAtS PySem.Challenge.rw_metagain_k05_whole_fates_of_thirty_figur w K (L2N.CX PySem.Challenge.rw_metagain_k05_whole_fates_of_thirty_figur.prog w) 10 63 "script" mg fa0 h := by
  have cd := c.t.d
  have hm := c.more
  unfold ex at hm
  simp only [Bool.and_eq_true] at hm
  obtain ⟨hn, ha, mt0⟩ := hm
  obtain rfl : fa0 = He.ga K "law" := by
    have z := hfa.symm.trans (He.glo_ok X G (cd.fact 46 (f := .glo "law") rfl))
    injection z with z
    injection z
  obtain ⟨fd, F⟩ := cd.def_ 46 (d := D_law) rfl
  have tt := txt X G cd ha mt0
  refine law_atL (ds := lamd) (st := topS 56) (kws := []) X G c (He.glo_ok X G (cd.fact 46 (f := .glo "law") rfl)) hfa F (fun _ _ _ _ _ _ us hl => match us, hl with | [_], _ => rfl) hn ha (fun base LC hb => ?_) pure
  exact ok_law tt (by exact {
    l_none := trivial }) ((LC "law" (by decide)).defL (He.glo_ok X G (cd.fact 46 (f := .glo "law") rfl)) F hb)
end
end Hd

set_option linter.all false
set_option Elab.async false
set_option maxRecDepth 100000
/-! The mirror's words, run by simp. -/
namespace Mi
open PySem
section
variable (ρ : Env) (μ : Sto)
@[simp] theorem x_eVar (i : Nat) : eVar i ρ μ = (match ρ[i]? with | some (some w) => .ok w μ | _ => .no) := rfl
@[simp] theorem x_eC (d : D) : eC d ρ μ = .ok (.d d) μ := rfl
@[simp] theorem x_eInt (i : Int) : eInt i ρ μ = .ok (.d (.int i)) μ := rfl
@[simp] theorem x_eStr (i : Str) : eStr i ρ μ = .ok (.d (.str i)) μ := rfl
@[simp] theorem x_eBl (i : Bool) : eBl i ρ μ = .ok (.d (.bool i)) μ := rfl
@[simp] theorem x_eNon : eNon ρ μ = .ok (.d .none) μ := rfl
@[simp] theorem x_eYes : eYes ρ μ = .ok (.d (.bool true)) μ := rfl
@[simp] theorem x_eFn (x : Str) : eFn x ρ μ = .ok (.f x) μ := rfl
@[simp] theorem x_eOp (op : D → D → Option D) (f g : EF) : eOp op f g ρ μ = (f ρ μ).bind fun a μ1 => (g ρ μ1).bind fun b μ2 => ofO ((view μ2 a).bind fun x => (view μ2 b).bind fun y => (op x y).map W.d) μ2 := rfl
@[simp] theorem x_eUn (op : D → Option D) (f : EF) : eUn op f ρ μ = (f ρ μ).bind fun a μ1 => ofO ((view μ1 a).bind fun x => (op x).map W.d) μ1 := rfl
@[simp] theorem x_aNil : aNil ρ μ = .ok [] μ := rfl
@[simp] theorem x_aCons (f : EF) (r : AF) : aCons f r ρ μ = (f ρ μ).bind fun a μ1 => (r ρ μ1).bind fun as μ2 => .ok (a :: as) μ2 := rfl
@[simp] theorem x_eTup (a : AF) : eTup a ρ μ = (a ρ μ).bind fun ws μ1 => ofO ((asDs ws).map fun ds => W.d (.tuple ds)) μ1 := rfl
@[simp] theorem x_eLst (a : AF) : eLst a ρ μ = (a ρ μ).bind fun ws μ1 => ofO ((asDs ws).map fun ds => W.d (.list ds)) μ1 := rfl
@[simp] theorem x_eLstM (a : AF) : eLstM a ρ μ = (a ρ μ).bind fun ws μ1 => (match asDs ws with | some ds => .ok (.m μ1.length) (μ1 ++ [some (.lst ds)]) | none => .no) := rfl
@[simp] theorem x_eCall (g : GF) (a : AF) : eCall g a ρ μ = (a ρ μ).bind g := rfl
@[simp] theorem x_eBlt (h : List D → Option D) (a : AF) : eBlt h a ρ μ = (a ρ μ).bind fun ws μ1 => ofO ((views μ1 ws).bind fun ds => (h ds).map W.d) μ1 := rfl
@[simp] theorem x_eAnd (f g : EF) : eAnd f g ρ μ = (f ρ μ).test fun b μ1 => if b = true then g ρ μ1 else .ok (.d (.bool false)) μ1 := rfl
@[simp] theorem x_eOr (f g : EF) : eOr f g ρ μ = (f ρ μ).test fun b μ1 => if b = true then .ok (.d (.bool true)) μ1 else g ρ μ1 := rfl
@[simp] theorem x_eNot (f : EF) : eNot f ρ μ = (f ρ μ).test fun b μ1 => .ok (.d (.bool (!b))) μ1 := rfl
@[simp] theorem x_eIf (c f g : EF) : eIf c f g ρ μ = (c ρ μ).test fun b μ1 => if b = true then f ρ μ1 else g ρ μ1 := rfl
@[simp] theorem x_eChain (op op' : D → D → Option D) (f g h : EF) : eChain op op' f g h ρ μ = (f ρ μ).bind fun a μ1 => (g ρ μ1).bind fun b μ2 =>
  (ofO ((view μ2 a).bind fun x => (view μ2 b).bind fun y => (op x y).map W.d) μ2).test fun k μ3 => if k = true then
    (h ρ μ3).bind fun c μ4 => ofO ((view μ4 b).bind fun x => (view μ4 c).bind fun y => (op' x y).map W.d) μ4
  else .ok (.d (.bool false)) μ3 := rfl
@[simp] theorem x_eIsN (f : EF) : eIsN f ρ μ = (f ρ μ).bind fun a μ1 => .ok (.d (.bool (isNonW a))) μ1 := rfl
@[simp] theorem x_eNotN (f : EF) : eNotN f ρ μ = (f ρ μ).bind fun a μ1 => .ok (.d (.bool (!isNonW a))) μ1 := rfl
@[simp] theorem x_part0 : ePart none ρ μ = .ok none μ := rfl
@[simp] theorem x_part1 (f : EF) : ePart (some f) ρ μ = (f ρ μ).bind fun w μ1 => (match w with | .d (.int i) => .ok (some i) μ1 | _ => .no) := rfl
@[simp] theorem x_eSl (cut : D → Option Int → Option Int → Option D) (f : EF) (lo hi : Option EF) : eSl cut f lo hi ρ μ = (f ρ μ).bind fun a μ1 =>
  (ePart lo ρ μ1).bind fun l μ2 => (ePart hi ρ μ2).bind fun h μ3 => ofO ((view μ3 a).bind fun x => (cut x l h).map W.d) μ3 := rfl
@[simp] theorem x_eNotT (f : EF) : eNotT f ρ μ = (f ρ μ).bind fun a μ1 => ofO ((view μ1 a).bind fun d => ((truD d).map fun b => PyData.bool (!b)).map W.d) μ1 := rfl
@[simp] theorem x_eIsi (t : Ty) (f : EF) : eIsi t f ρ μ = (f ρ μ).bind fun a μ1 => ofO ((view μ1 a).bind fun d => some (W.d (.bool (isTy t d)))) μ1 := rfl
@[simp] theorem x_eM0 (op : Str → Option D) (f : EF) : eM0 op f ρ μ = (f ρ μ).bind fun w μ1 => (match w with | .d (.str a) => ofO ((op a).map W.d) μ1 | _ => .no) := rfl
@[simp] theorem x_eM1 (op : Str → D → Option D) (f g : EF) : eM1 op f g ρ μ = (f ρ μ).bind fun w μ1 => (match w with
  | .d (.str a) => (g ρ μ1).bind fun u μ2 => ofO ((view μ2 u).bind fun y => (op a y).map W.d) μ2
  | _ => .no) := rfl
@[simp] theorem x_eTry (nm : Exn → Option Str) (f : EF) : eTry nm f ρ μ = (match f ρ μ with | .ok _ μ1 => .ok (.d (.str "")) μ1 | .er x μ1 => ofO ((nm x).map fun s => W.d (.str s)) μ1 | .no => .no) := rfl
@[simp] theorem x_eLc (vs : List Nat) (t : TF) (it : IF) (c e : EF) : eLc vs t it c e ρ μ = (it ρ μ).bind fun l μ1 => lcL t c e (wipeE ρ vs) l [] μ1 := rfl
@[simp] theorem x_eApp (f e : EF) : eApp f e ρ μ = (f ρ μ).bind fun w μ1 => (match w with
  | .m k => (match mlist μ1 k with
    | some _ => (e ρ μ1).bind fun u μ2 => (match u, mlist μ2 k with
      | .d d, some l => if l.length < LIM then .ok (.d .none) (μ2.set k (some (.lst (l ++ [d])))) else .no
      | _, _ => .no)
    | none => .no)
  | _ => .no) := rfl
@[simp] theorem x_iSeq (f : EF) : iSeq f ρ μ = (f ρ μ).bind fun w μ1 => (match w with | .d d => ofO (items d) μ1 | _ => .no) := rfl
@[simp] theorem x_iRange1 (f : EF) : iRange1 f ρ μ = (f ρ μ).bind fun w μ1 => (match w with | .d (.int b) => if -(LIM : Int) ≤ b ∧ b ≤ LIM then .ok (rangeD 0 b) μ1 else .no | _ => .no) := rfl
@[simp] theorem x_eLRg (it : IF) : eLRg it ρ μ = (it ρ μ).bind fun l μ1 => .ok (.d (.list l)) μ1 := rfl
@[simp] theorem x_eLm (op : List D → D → Option D) (f g : EF) : eLm op f g ρ μ = (f ρ μ).bind fun a μ1 => (match a with
  | .d (.list l) => (g ρ μ1).bind fun b μ2 => ofO ((view μ2 b).bind fun y => (op l y).map W.d) μ2
  | _ => .no) := rfl
@[simp] theorem x_iRange2 (f g : EF) : iRange2 f g ρ μ = (f ρ μ).bind fun w μ1 => (g ρ μ1).bind fun u μ2 => (match w, u with
  | .d (.int a), .d (.int b) => if -(LIM : Int) ≤ a ∧ a ≤ LIM ∧ -(LIM : Int) ≤ b ∧ b ≤ LIM then .ok (rangeD a b) μ2 else .no
  | _, _ => .no) := rfl
@[simp] theorem x_iEnumD (f : EF) : iEnumD f ρ μ = (f ρ μ).bind fun w μ1 => (match w with
  | .d (.tuple l) => if l.length ≤ LIM then .ok (enumD l) μ1 else .no
  | .d (.list l) => if l.length ≤ LIM then .ok (enumD l) μ1 else .no
  | _ => .no) := rfl
@[simp] theorem x_eLenSet (f : EF) : eLenSet f ρ μ = (f ρ μ).bind fun w μ1 => (match w with
  | .d (.list l) => (match boolsL l with
    | some bs => if bs.length ≤ 1000 then .ok (.d (.int (cntB bs : Nat))) μ1 else .no
    | none => .no)
  | _ => .no) := rfl
@[simp] theorem x_eCatM (f g : EF) : eCatM f g ρ μ = (f ρ μ).bind fun a μ1 => (g ρ μ1).bind fun b μ2 => (match view μ2 a, view μ2 b with
  | some (.list x), some (.list y) => if x.length + y.length ≤ LIM then .ok (.m μ2.length) (μ2 ++ [some (.lst (x ++ y))]) else .no
  | _, _ => .no) := rfl
@[simp] theorem x_eCallV (i : Nat) (gs : List (Str × GF)) (a : AF) : eCallV i gs a ρ μ = (match ρ[i]? with
  | some (some (.f x)) => (match gs.lookup x with | some g => (a ρ μ).bind g | none => .no)
  | _ => .no) := rfl
@[simp] theorem x_eLcW (vs : List Nat) (i : Nat) (r : AF) (e : EF) : eLcW vs i r e ρ μ = (r ρ μ).bind fun ws μ1 => lcW i e (wipeE ρ vs) ws [] μ1 := rfl
/-! statements -/
@[simp] theorem x_sNil : sNil ρ μ = .nx ρ μ := rfl
@[simp] theorem x_sSeq (F G : SF) : sSeq F G ρ μ = (match F ρ μ with | .nx ρ1 μ1 => G ρ1 μ1 | r => r) := rfl
@[simp] theorem x_sAsg (i : Nat) (f : EF) : sAsg i f ρ μ = (f ρ μ).bindS fun w μ1 => .nx (ρ.set i (some w)) μ1 := rfl
@[simp] theorem x_sPar (i j : Nat) (f g : EF) : sPar i j f g ρ μ = (f ρ μ).bindS fun w μ1 => (g ρ μ1).bindS fun u μ2 => .nx ((ρ.set i (some w)).set j (some u)) μ2 := rfl
@[simp] theorem x_tName (i : Nat) (d : D) : tName i d ρ = some (ρ.set i (some (.d d))) := rfl
@[simp] theorem x_tTups0 : tTups [] [] ρ = some ρ := rfl
@[simp] theorem x_tTups1 (t : TF) (ts : List TF) (d : D) (ds : List D) : tTups (t :: ts) (d :: ds) ρ = (t d ρ).bind fun ρ1 => tTups ts ds ρ1 := rfl
@[simp] theorem x_tTup (ts : List TF) (ds : List D) : tTup ts (.tuple ds) ρ = tTups ts ds ρ := rfl
@[simp] theorem x_tUnl (ts : List TF) (ds : List D) : tUnl ts (.list ds) ρ = tTups ts ds ρ := rfl
@[simp] theorem x_sTgt (t : TF) (f : EF) : sTgt t f ρ μ = (f ρ μ).bindS fun w μ1 => (match w with | .d d => (match t d ρ with | some ρ1 => .nx ρ1 μ1 | none => .no) | _ => .no) := rfl
@[simp] theorem x_sDrop (f : EF) : sDrop f ρ μ = (f ρ μ).bindS fun _ μ1 => .nx ρ μ1 := rfl
@[simp] theorem x_sRet (f : EF) : sRet f ρ μ = (f ρ μ).bindS fun w μ1 => .rt w μ1 := rfl
@[simp] theorem x_sRetF (f : EF) : sRetF f ρ μ = (f ρ μ).bindS fun w μ1 => (match view μ1 w with | some d => .rt (.d d) (match w with | .m k => μ1.set k none | _ => μ1) | none => .no) := rfl
@[simp] theorem x_sIf (c : EF) (F G : SF) : sIf c F G ρ μ = RS.test (c ρ μ) fun b μ1 => if b = true then F ρ μ1 else G ρ μ1 := rfl
@[simp] theorem x_sFrz (i : Nat) : sFrz i ρ μ = (match ρ[i]? with
  | some (some (.m k)) => (match mlist μ k with | some l => .nx (ρ.set i (some (.d (.list l)))) (μ.set k none) | none => .no)
  | _ => .no) := rfl
@[simp] theorem x_sBreak : sBreak ρ μ = .bk ρ μ := rfl
@[simp] theorem x_sCont : sCont ρ μ = .ct ρ μ := rfl
@[simp] theorem x_sRaise (x : Str) : sRaise x ρ μ = .er ⟨x, none⟩ μ := rfl
@[simp] theorem x_sFor (t : TF) (it : IF) (B : SF) : sFor t it B ρ μ = (it ρ μ).bindS fun l μ1 => forL t B l ρ μ1 := rfl
@[simp] theorem x_sSub (o i e : EF) : sSub o i e ρ μ = (e ρ μ).bindS fun u μ1 => (o ρ μ1).bindS fun w μ2 => (i ρ μ2).bindS fun j μ3 => (match u, w, j with
  | .d d, .m k, .d (.int n) => (match mlist μ3 k with
    | some l => (match ixI l.length n with
      | some p => .nx ρ (μ3.set k (some (.lst (l.set p d))))
      | none => .no)
    | none => .no)
  | _, _, _ => .no) := rfl
end
@[simp] theorem x_test_er {x : Exn} {μ : Sto} (f : Bool → Sto → RS) : RS.test (R.er x μ) f = .er x μ := rfl
@[simp] theorem x_view_m (μ : Sto) (k : Nat) : view μ (.m k) = (mlist μ k).map .list := rfl
@[simp] theorem x_views0 (μ : Sto) : views μ [] = some [] := rfl
@[simp] theorem x_views1 (μ : Sto) (w : W) (r : List W) : views μ (w :: r) = (view μ w).bind fun d => (views μ r).map (d :: ·) := rfl
@[simp] theorem x_isN1 : isNonW (.d .none) = true := rfl
@[simp] theorem x_isN2 (i : Int) : isNonW (.d (.int i)) = false := rfl
@[simp] theorem x_isN3 (i : List D) : isNonW (.d (.tuple i)) = false := rfl
@[simp] theorem x_isN4 (i : List D) : isNonW (.d (.list i)) = false := rfl
@[simp] theorem x_isN5 (i : Str) : isNonW (.d (.str i)) = false := rfl
@[simp] theorem x_isN6 (i : Bool) : isNonW (.d (.bool i)) = false := rfl
@[simp] theorem x_startE (n : Nat) (ws : List W) : startE n ws = ws.map some ++ List.replicate (n - ws.length) none := rfl
@[simp] theorem x_addI (a b : Int) : dAdd (.int a) (.int b) = some (.int (a + b)) := rfl
@[simp] theorem x_subI (a b : Int) : dSub (.int a) (.int b) = some (.int (a - b)) := rfl
@[simp] theorem x_negI (a : Int) : dNeg (.int a) = some (.int (-a)) := rfl
@[simp] theorem x_ltI (a b : Int) : dLt (.int a) (.int b) = some (.bool (decide (a < b))) := rfl
@[simp] theorem x_leI (a b : Int) : dLe (.int a) (.int b) = some (.bool (decide (a ≤ b))) := rfl
@[simp] theorem x_gtI (a b : Int) : dGt (.int a) (.int b) = some (.bool (decide (b < a))) := rfl
@[simp] theorem x_geI (a b : Int) : dGe (.int a) (.int b) = some (.bool (decide (b ≤ a))) := rfl
theorem x_modI {a b : Int} (h : 0 < b) : dMod (.int a) (.int b) = some (.int (a % b)) := if_pos h
theorem x_divI {a b : Int} (h : 0 < b) (h2 : b < 2 ^ 1000) : dDiv (.int a) (.int b) = some (.int (a / b)) := if_pos ⟨h, h2⟩
theorem x_modN {a b : Int} (h : b < 0) : dMod (.int a) (.int b) = some (.int (a.fmod b)) := by
  show (if 0 < b then _ else _) = _
  rw [if_neg (by omega), if_pos h]
theorem x_divN {a b : Int} (h : b < 0) (h2 : b.natAbs < 2 ^ 1000) : dDiv (.int a) (.int b) = some (.int (a.fdiv b)) := by
  show (if divOk b then _ else _) = _
  rw [if_neg (fun hk => by have := hk.1; omega), if_pos ⟨h, h2⟩]
theorem x_mulI {a b : Int} (h : mulOk a b) : dMul (.int a) (.int b) = some (.int (a * b)) := if_pos h
theorem mulOk_l {a b : Int} (h : a.natAbs < 2 ^ 64) : mulOk a b := .inl (.inl h)
theorem mulOk_r {a b : Int} (h : b.natAbs < 2 ^ 64) : mulOk a b := .inl (.inr h)
@[simp] theorem x_int1 (a : Int) : bInt [.int a] = some (.int a) := rfl
theorem x_fin (n : Nat) (d : D) (μ : Sto) (h : μ.length = n) : fin n (.rt (.d d) μ) = .ok (.d d) μ := by
  simp [fin, List.take_of_length_le (Nat.le_of_eq h)]
theorem fnOf_eq {p n : Nat} {F : SF} {ws : List W} {μ : Sto} (h : ws.length = p) : fnOf p n F ws μ = fin μ.length (F (ws.map some ++ List.replicate (n - ws.length) none) μ) := if_pos h
theorem fnOf1 (n : Nat) (F : SF) (a : W) (μ : Sto) : fnOf 1 n F [a] μ = fin μ.length (F (some a :: List.replicate (n - 1) none) μ) := rfl
theorem fnOf2 (n : Nat) (F : SF) (a b : W) (μ : Sto) : fnOf 2 n F [a, b] μ = fin μ.length (F (some a :: some b :: List.replicate (n - 2) none) μ) := rfl
theorem fnOf3 (n : Nat) (F : SF) (a b c : W) (μ : Sto) : fnOf 3 n F [a, b, c] μ = fin μ.length (F (some a :: some b :: some c :: List.replicate (n - 3) none) μ) := rfl
@[simp] theorem x_rangeD_len (a b : Int) : (rangeD a b).length = (b - a).toNat := by simp [rangeD]
/-! loops -/
/-- a loop that goes on and on, what holds kept -/
theorem forL_keep {t : TF} {B : SF} (I : Env → Sto → Prop) : ∀ (l : List D) (ρ : Env) (μ : Sto), I ρ μ →
    (∀ d ∈ l, ∀ ρ μ, I ρ μ → ∃ ρ1, t d ρ = some ρ1 ∧ ∃ ρ2 μ2, B ρ1 μ = .nx ρ2 μ2 ∧ I ρ2 μ2) → ∃ ρ' μ', forL t B l ρ μ = .nx ρ' μ' ∧ I ρ' μ'
  | [], ρ, μ, h, _ => ⟨ρ, μ, rfl, h⟩
  | d :: r, ρ, μ, h, st => by
    obtain ⟨ρ1, e1, ρ2, μ2, e2, h2⟩ := st d List.mem_cons_self ρ μ h
    obtain ⟨ρ', μ', e3, h3⟩ := forL_keep I r ρ2 μ2 h2 fun d hd => st d (List.mem_cons_of_mem _ hd)
    exact ⟨ρ', μ', by unfold forL; rw [e1]; dsimp only; rw [e2]; exact e3, h3⟩
/-- .. told by how many have been walked -/
theorem forL_count {t : TF} {B : SF} (I : Nat → Env → Sto → Prop) (n : Nat) : ∀ (l : List D) (i : Nat) (ρ : Env) (μ : Sto), i + l.length ≤ n → I i ρ μ →
    (∀ i d ρ μ, i < n → d ∈ l → I i ρ μ → ∃ ρ1, t d ρ = some ρ1 ∧ ∃ ρ2 μ2, B ρ1 μ = .nx ρ2 μ2 ∧ I (i + 1) ρ2 μ2) → ∃ ρ' μ', forL t B l ρ μ = .nx ρ' μ' ∧ I (i + l.length) ρ' μ'
  | [], i, ρ, μ, _, h, _ => ⟨ρ, μ, rfl, h⟩
  | d :: r, i, ρ, μ, hn, h, st => by
    rw [List.length_cons] at hn
    obtain ⟨ρ1, e1, ρ2, μ2, e2, h2⟩ := st i d ρ μ (by omega) List.mem_cons_self h
    obtain ⟨ρ', μ', e3, h3⟩ := forL_count I n r (i + 1) ρ2 μ2 (by omega) h2 fun i e ρ μ hi he => st i e ρ μ hi (List.mem_cons_of_mem _ he)
    exact ⟨ρ', μ', by unfold forL; rw [e1]; dsimp only; rw [e2]; exact e3, by rw [List.length_cons]; rw [show i + (r.length + 1) = i + 1 + r.length by omega]; exact h3⟩
/-- .. told by the list that is left and the walked one -/
theorem forL_upto {t : TF} {B : SF} (I : List D → Env → Sto → Prop) (L : List D) : ∀ (l p : List D) (ρ : Env) (μ : Sto), L = p ++ l → I p ρ μ →
    (∀ p d q ρ μ, L = p ++ d :: q → I p ρ μ → ∃ ρ1, t d ρ = some ρ1 ∧ ∃ ρ2 μ2, B ρ1 μ = .nx ρ2 μ2 ∧ I (p ++ [d]) ρ2 μ2) → ∃ ρ' μ', forL t B l ρ μ = .nx ρ' μ' ∧ I L ρ' μ'
  | [], p, ρ, μ, e, h, _ => ⟨ρ, μ, rfl, by rw [e, List.append_nil]; exact h⟩
  | d :: r, p, ρ, μ, e, h, st => by
    obtain ⟨ρ1, e1, ρ2, μ2, e2, h2⟩ := st p d r ρ μ e h
    obtain ⟨ρ', μ', e3, h3⟩ := forL_upto I L r (p ++ [d]) ρ2 μ2 (by rw [e]; simp) h2 st
    exact ⟨ρ', μ', by unfold forL; rw [e1]; dsimp only; rw [e2]; exact e3, h3⟩
theorem forL_uptoT {α : Type} (f : α → D) {t : TF} {B : SF} (I : List α → Env → Sto → Prop) (L : List α) : ∀ (l p : List α) (ρ : Env) (μ : Sto), L = p ++ l → I p ρ μ →
    (∀ p d q ρ μ, L = p ++ d :: q → I p ρ μ → ∃ ρ1, t (f d) ρ = some ρ1 ∧ ∃ ρ2 μ2, B ρ1 μ = .nx ρ2 μ2 ∧ I (p ++ [d]) ρ2 μ2) → ∃ ρ' μ', forL t B (l.map f) ρ μ = .nx ρ' μ' ∧ I L ρ' μ'
  | [], p, ρ, μ, e, h, _ => ⟨ρ, μ, rfl, by rw [e, List.append_nil]; exact h⟩
  | d :: r, p, ρ, μ, e, h, st => by
    obtain ⟨ρ1, e1, ρ2, μ2, e2, h2⟩ := st p d r ρ μ e h
    obtain ⟨ρ', μ', e3, h3⟩ := forL_uptoT f I L r (p ++ [d]) ρ2 μ2 (by rw [e]; simp) h2 st
    exact ⟨ρ', μ', by rw [List.map_cons]; unfold forL; rw [e1]; dsimp only; rw [e2]; exact e3, h3⟩
/-- a comprehension whose items are told by a map; nothing is changed -/
theorem lc_map {t : TF} {c e : EF} {ρ : Env} {μ : Sto} (y : D → D) : ∀ (l acc : List D), (∀ d ∈ l, ∃ ρ1, t d ρ = some ρ1 ∧ c ρ1 μ = .ok (.d (.bool true)) μ ∧ e ρ1 μ = .ok (.d (y d)) μ) → lcL t c e ρ l acc μ = .ok (.d (.list (acc ++ l.map y))) μ
  | [], acc, _ => by simp [lcL]
  | d :: r, acc, h => by
    obtain ⟨ρ1, e1, e2, e3⟩ := h d List.mem_cons_self
    unfold lcL
    rw [e1]
    dsimp only
    rw [e2]
    dsimp only
    rw [e3]
    dsimp only
    rw [lc_map y r (acc ++ [y d]) fun d hd => h d (List.mem_cons_of_mem _ hd)]
    simp
/-- .. with a test -/
theorem lc_filter {t : TF} {c e : EF} {ρ : Env} {μ : Sto} (p : D → Bool) (y : D → D) : ∀ (l acc : List D), (∀ d ∈ l, ∃ ρ1, t d ρ = some ρ1 ∧ c ρ1 μ = .ok (.d (.bool (p d))) μ ∧ (p d = true → e ρ1 μ = .ok (.d (y d)) μ)) →
    lcL t c e ρ l acc μ = .ok (.d (.list (acc ++ (l.filter p).map y))) μ
  | [], acc, _ => by simp [lcL]
  | d :: r, acc, h => by
    obtain ⟨ρ1, e1, e2, e3⟩ := h d List.mem_cons_self
    unfold lcL
    rw [e1]
    dsimp only
    rw [e2]
    cases hp : p d with
    | true =>
      dsimp only
      rw [e3 hp]
      dsimp only
      rw [lc_filter p y r (acc ++ [y d]) fun d hd => h d (List.mem_cons_of_mem _ hd)]
      simp [hp]
    | false =>
      dsimp only
      rw [lc_filter p y r acc fun d hd => h d (List.mem_cons_of_mem _ hd)]
      simp [hp]
/-- over things that stand for data -/
theorem lc_mapT {α : Type} {t : TF} {c e : EF} {ρ : Env} {μ : Sto} (f : α → D) (g : α → D) : ∀ (l : List α) (acc : List D), (∀ x ∈ l, ∃ ρ1, t (f x) ρ = some ρ1 ∧ c ρ1 μ = .ok (.d (.bool true)) μ ∧ e ρ1 μ = .ok (.d (g x)) μ) →
    lcL t c e ρ (l.map f) acc μ = .ok (.d (.list (acc ++ l.map g))) μ
  | [], acc, _ => by simp [lcL]
  | d :: r, acc, h => by
    obtain ⟨ρ1, e1, e2, e3⟩ := h d List.mem_cons_self
    rw [List.map_cons]
    unfold lcL
    rw [e1]
    dsimp only
    rw [e2]
    dsimp only
    rw [e3]
    dsimp only
    rw [lc_mapT f g r (acc ++ [g d]) fun d hd => h d (List.mem_cons_of_mem _ hd)]
    simp
theorem dEqI (i j : Int) : dEq (.int i) (.int j) = some (.bool (i == j)) := rfl
theorem dNeI (i j : Int) : dNe (.int i) (.int j) = some (.bool (!(i == j))) := rfl
theorem dEqD {a b : D} (ha : SeqAt.shaped a = true) (hb : SeqAt.shaped b = true) : dEq a b = some (.bool (PyData.eqv a b)) := if_pos ⟨ha, hb⟩
theorem dNeD {a b : D} (ha : SeqAt.shaped a = true) (hb : SeqAt.shaped b = true) : dNe a b = some (.bool (!PyData.eqv a b)) := if_pos ⟨ha, hb⟩
theorem dEqS {x y : Str} (ha : SeqAt.shaped (.str x) = true) (hb : SeqAt.shaped (.str y) = true) : dEq (.str x) (.str y) = some (.bool (x == y)) := by rw [dEqD ha hb]; rfl
theorem dNeS {x y : Str} (ha : SeqAt.shaped (.str x) = true) (hb : SeqAt.shaped (.str y) = true) : dNe (.str x) (.str y) = some (.bool (!(x == y))) := by rw [dNeD ha hb]; rfl
theorem canAll_mem : ∀ {l : List D} {x : D}, PyData.canLayAll0 l = true → x ∈ l → x.canLay0 = true
  | y :: r, x, h, hx => by
    rw [PyData.canLayAll0, Bool.and_eq_true] at h
    rcases List.mem_cons.mp hx with rfl | hx
    · exact h.1
    · exact canAll_mem h.2 hx
theorem depth_mem : ∀ {l : List D} {x : D}, x ∈ l → x.depth ≤ PyData.depthAll l
  | y :: r, x, hx => by
    rw [PyData.depthAll]
    rcases List.mem_cons.mp hx with rfl | hx
    · exact Nat.le_max_left _ _
    · exact Nat.le_trans (depth_mem hx) (Nat.le_max_right _ _)
theorem shaped_iff {d : D} : SeqAt.shaped d = true ↔ d.canLay0 = true ∧ d.depth ≤ 64 := by simp [SeqAt.shaped]
theorem shaped_tup {l : List D} (h : SeqAt.shaped (.tuple l) = true) : ∀ x ∈ l, SeqAt.shaped x = true := fun x hx => by
  obtain ⟨h1, h2⟩ := shaped_iff.mp h
  rw [PyData.canLay0] at h1
  rw [PyData.depth] at h2
  exact shaped_iff.mpr ⟨canAll_mem h1 hx, by have := depth_mem hx; omega⟩
theorem shaped_lst {l : List D} (h : SeqAt.shaped (.list l) = true) : ∀ x ∈ l, SeqAt.shaped x = true := fun x hx => by
  obtain ⟨h1, h2⟩ := shaped_iff.mp h
  rw [PyData.canLay0] at h1
  rw [PyData.depth] at h2
  exact shaped_iff.mpr ⟨canAll_mem h1 hx, by have := depth_mem hx; omega⟩
end Mi

set_option linter.all false
set_option Elab.async false
set_option maxRecDepth 100000
set_option maxHeartbeats 1000000
/-! The plain law: what the law's own draws are. -/
namespace Pure
open PySem Mi Mir
/-- the drum -/
def drum (a b : Int) : Option Cell := some (.lst [.int a, .int b])
structure DrumAt (μ : Sto) (k : Nat) : Prop where
  at_ : ∃ a b, μ[k]? = some (drum a b) ∧ 0 ≤ a ∧ 0 ≤ b ∧ b < 4294967296
theorem DrumAt.lt {μ : Sto} {k : Nat} (h : DrumAt μ k) : k < μ.length := by
  obtain ⟨a, b, e, _⟩ := h.at_
  exact (List.getElem?_eq_some_iff.mp e).1
/-- the store with the drum rolled on -/
def Rolled (k : Nat) (μ μ' : Sto) : Prop := ∃ a b, μ' = μ.set k (drum a b) ∧ 0 ≤ a ∧ 0 ≤ b ∧ b < 4294967296
theorem Rolled.at_ {k : Nat} {μ μ' : Sto} (r : Rolled k μ μ') (h : k < μ.length) : DrumAt μ' k := by
  obtain ⟨a, b, rfl, ha, hb, hb2⟩ := r
  exact ⟨a, b, by simp [h], ha, hb, hb2⟩
theorem Rolled.len {k : Nat} {μ μ' : Sto} (r : Rolled k μ μ') : μ'.length = μ.length := by
  obtain ⟨a, b, rfl, _⟩ := r
  simp
theorem Rolled.ne {k j : Nat} {μ μ' : Sto} (r : Rolled k μ μ') (h : k ≠ j) : μ'[j]? = μ[j]? := by
  obtain ⟨a, b, rfl, _⟩ := r
  exact List.getElem?_set_ne h
theorem Rolled.trans {k : Nat} {μ μ1 μ2 : Sto} (r : Rolled k μ μ1) (s : Rolled k μ1 μ2) : Rolled k μ μ2 := by
  obtain ⟨a, b, rfl, _⟩ := r
  obtain ⟨a', b', rfl, h⟩ := s
  exact ⟨a', b', by rw [List.set_set], h⟩
theorem ml_set {μ : Sto} {k : Nat} {l : List D} (h : k < μ.length) : mlist (μ.set k (some (.lst l))) k = some l := by simp [mlist, h]
theorem ix0 (x : D) (l : List D) : dIx (.list (x :: l)) (.int 0) = some x := by simp [dIx, ixI]
theorem ix1 (x y : D) (l : List D) : dIx (.list (x :: y :: l)) (.int 1) = some y := by
  have : (1 : Int) < (l.length : Int) + 1 + 1 := by omega
  simp [dIx, ixI, this]
theorem roll_spec {μ : Sto} {k : Nat} {many : Int} (h : DrumAt μ k) (hm : 0 < many) (hm2 : many < 2 ^ 1000) :
    ∃ r μ', 0 ≤ r ∧ r < many ∧ Rolled k μ μ' ∧ g__law_roll [.m k, .d (.int many)] μ = .ok (.d (.int r)) μ' := by
  obtain ⟨a, b, e, ha, hb, hb2⟩ := h.at_
  have hk : k < μ.length := h.lt
  have ml : mlist μ k = some [.int a, .int b] := by simp [mlist, e, drum]
  unfold g__law_roll fnOf
  by_cases hp : 0 < a
  · refine ⟨a % many, _, Int.emod_nonneg _ (by omega), Int.emod_lt_of_pos _ hm, ⟨a / many, b, rfl, Int.ediv_nonneg ha (by omega), hb, hb2⟩, ?_⟩
    simp [F__law_roll, ml, ix0, hp, x_modI hm, x_divI hm hm2, ixI]
    rw [x_fin _ _ _ (by simp)]
    simp [drum]
  · have m1 : mulOk b 30671 := mulOk_r (by decide)
    have m2 : ∀ x y : Int, 0 ≤ x → x < 2147483549 → mulOk x y := fun x y h1 h2 => mulOk_l (by omega)
    generalize hb' : (b * 30671 + 8807) % 2147483549 = b1
    have hb1 : 0 ≤ b1 := by rw [← hb']; exact Int.emod_nonneg _ (by decide)
    have hb3 : b1 < 2147483549 := by rw [← hb']; exact Int.emod_lt_of_pos _ (by decide)
    have i1 : ixI (List.length [PyData.int a, PyData.int b]) 1 = some 1 := rfl
    refine ⟨(b1 * (b1 + 101) % 2147483587 / 613) % many, _, Int.emod_nonneg _ (by omega), Int.emod_lt_of_pos _ hm, ⟨a, b1, rfl, ha, hb1, by omega⟩, ?_⟩
    simp [F__law_roll, ml, ix0, ix1, hp, x_mulI m1, x_modI, hb', x_mulI (m2 b1 _ hb1 hb3), x_modI hm, x_divI (show (0 : Int) < 613 by decide) (by decide), ixI, ml_set hk]
    rw [x_fin _ _ _ (by simp)]
    simp [drum]
theorem some_spec {μ : Sto} {k : Nat} {l : List D} (h : DrumAt μ k) (hl : l ≠ []) (hl2 : l.length < 1000) :
    ∃ d μ', d ∈ l ∧ Rolled k μ μ' ∧ g__law_some [.m k, .d (.list l)] μ = .ok (.d d) μ' := by
  have h0 : 0 < l.length := List.length_pos_iff.mpr hl
  obtain ⟨r, μ', h1, h2, hr, e⟩ := roll_spec (many := l.length) h (by omega) (Int.lt_of_lt_of_le (show (l.length : Int) < 1000 by omega) (by decide))
  have hi : r.toNat < l.length := by omega
  refine ⟨l[r.toNat], μ', List.getElem_mem hi, hr, ?_⟩
  unfold g__law_some fnOf
  simp [F__law_some, bLen, e, dIx, ixI, h1, h2, hi]
  rw [x_fin _ _ _ hr.len]
theorem drum_spec {cell turn : Int} {μ : Sto} (ht : 0 ≤ turn) (ht2 : turn < 1000) : ∃ a b, 0 ≤ a ∧ 0 ≤ b ∧ b < 4294967296 ∧ g__law_drum [.d (.int cell), .d (.int turn)] μ = .ok (.m μ.length) (μ ++ [drum a b]) := by
  have p18 : dPow (.int 10) (.int 18) = some (.int (10 ^ 18)) := rfl
  have m1 : mulOk 61 turn := mulOk_l (by decide)
  have m2 : mulOk cell 97 := mulOk_r (by decide)
  have m3 : mulOk 1087 turn := mulOk_l (by decide)
  unfold g__law_drum fnOf
  by_cases hc : (1000000000000000000 : Int) ≤ cell
  · refine ⟨cell / 7 + 61 * turn, (cell * 97 + 1087 * turn) % 2077504273 + 71, by omega, by omega, by omega, ?_⟩
    simp [F__law_drum, p18, hc, x_divI (show (0 : Int) < 7 by decide) (by decide), x_mulI m1, x_mulI m2, x_mulI m3, x_modI, fin, drum, List.take_of_length_le]
  · refine ⟨0, (cell * 97 + 1087 * turn) % 2077504273 + 71, by omega, by omega, by omega, ?_⟩
    simp [F__law_drum, p18, hc, x_divI (show (0 : Int) < 7 by decide) (by decide), x_mulI m1, x_mulI m2, x_mulI m3, x_modI, fin, drum, List.take_of_length_le]
end Pure

set_option linter.all false
set_option Elab.async false
set_option maxRecDepth 100000
set_option maxHeartbeats 1000000
/-! The plain law: the changes that the law makes up. -/
namespace Pure
open PySem Mi Mir
structure Pc where
  lo : Option Int
  hi : Option Int
  set : Bool
  by_ : Int
def oD : Option Int → D
  | none => .none
  | some i => .int i
@[simp] theorem oD_none : oD none = .none := rfl
@[simp] theorem oD_some (i : Int) : oD (some i) = .int i := rfl
def wd (b : Bool) : Str := if b then "set" else "add"
def Pc.d (p : Pc) : D := .tuple [oD p.lo, oD p.hi, .str (wd p.set), .int p.by_]
def far : Int := 1000000000000000000000000000000
def EndOk (o : Option Int) : Prop := ∀ i, o = some i → -far ≤ i ∧ i ≤ far
structure PcOk (p : Pc) : Prop where
  lo : EndOk p.lo
  hi : EndOk p.hi
  le : ∀ i j, p.lo = some i → p.hi = some j → i ≤ j
  by1 : -far ≤ p.by_
  by2 : p.by_ ≤ far
  add : p.set = false → p.by_ ≠ 0
def Ap (p q : Pc) : Prop := ∃ h l, p.hi = some h ∧ q.lo = some l ∧ h < l
def Apart : List Pc → Prop
  | p :: q :: r => Ap p q ∧ Apart (q :: r)
  | _ => True
theorem apart_snoc (q : Pc) : ∀ ps : List Pc, Apart ps → (∀ p, ps.getLast? = some p → Ap p q) → Apart (ps ++ [q])
  | [], _, _ => True.intro
  | [p], _, h => ⟨h p rfl, True.intro⟩
  | p :: p' :: r, ha, h => ⟨ha.1, apart_snoc q (p' :: r) ha.2 fun x hx => h x (by rw [List.getLast?_cons_cons]; exact hx)⟩
theorem apart_first {p p' : Pc} (h : p'.hi = p.hi) : ∀ r : List Pc, Apart (p :: r) → Apart (p' :: r)
  | [], _ => True.intro
  | q :: r, ha => ⟨by obtain ⟨a, b, h1, h2, h3⟩ := ha.1; exact ⟨a, b, by rw [h]; exact h1, h2, h3⟩, ha.2⟩
theorem apart_last {p p' : Pc} (h : p'.lo = p.lo) : ∀ r : List Pc, Apart (r ++ [p]) → Apart (r ++ [p'])
  | [], _ => True.intro
  | [q], ha => ⟨by obtain ⟨a, b, h1, h2, h3⟩ := ha.1; exact ⟨a, b, h1, by rw [h]; exact h2, h3⟩, True.intro⟩
  | q :: q' :: r, ha => ⟨ha.1, apart_last h (q' :: r) ha.2⟩
structure ChOk (ps : List Pc) : Prop where
  one : 1 ≤ ps.length
  four : ps.length ≤ 4
  all : ∀ p ∈ ps, PcOk p
  apart : Apart ps
theorem DrumAt.app {μ : Sto} {k : Nat} (h : DrumAt μ k) (ν : Sto) : DrumAt (μ ++ ν) k := by
  obtain ⟨a, b, e, r⟩ := h.at_
  exact ⟨a, b, by rw [List.getElem?_append_left h.lt]; exact e, r⟩
theorem Rolled.app {μ ν μ' : Sto} {k : Nat} (r : Rolled k (μ ++ ν) μ') (h : k < μ.length) : ∃ μ2, μ' = μ2 ++ ν ∧ Rolled k μ μ2 := by
  obtain ⟨a, b, rfl, h1⟩ := r
  exact ⟨μ.set k (drum a b), by rw [List.set_append_left _ _ h], a, b, rfl, h1⟩
theorem Rolled.refl {μ : Sto} {k : Nat} (h : DrumAt μ k) : Rolled k μ μ := by
  obtain ⟨a, b, e, r⟩ := h.at_
  refine ⟨a, b, (List.ext_getElem? fun j => ?_).symm, r⟩
  by_cases hj : k = j
  · subst hj
    rw [List.getElem?_set_self h.lt, e]
  · rw [List.getElem?_set_ne hj]
theorem ml_last (μ : Sto) (l : List D) : mlist (μ ++ [some (.lst l)]) μ.length = some l := by simp [mlist]
theorem set_last (μ : Sto) (c c' : Option Cell) : (μ ++ [c]).set μ.length c' = μ ++ [c'] := by simp
theorem ixL (l : List D) (x : D) : dIx (.list (l ++ [x])) (.int (-1)) = some x := by
  have h1 : (-((l.length : Int) + 1) ≤ -1) := by omega
  have h2 : (-1 + ((l.length : Int) + 1)).toNat = l.length := by omega
  simp [dIx, ixI, h1, h2]
theorem ixI_last (n : Nat) : ixI (n + 1) (-1) = some n := by
  have h1 : (-((n : Int) + 1) ≤ -1) := by omega
  have h2 : (-1 + ((n : Int) + 1)).toNat = n := by omega
  simp [ixI, h1, h2]
/-- what the making of a change keeps -/
structure Row (ps : List Pc) (low : Int) : Prop where
  all : ∀ p ∈ ps, PcOk p ∧ (∃ l, p.lo = some l) ∧ ∃ h, p.hi = some h
  apart : Apart ps
  last : ∀ p, ps.getLast? = some p → ∃ h, p.hi = some h ∧ h < low
theorem far_big : (1000000000 : Int) ≤ far := by decide
theorem Row.snoc {ps : List Pc} {low low' high : Int} {s : Bool} {b : Int} (r : Row ps low) (h1 : -1000000 ≤ low) (h2 : low ≤ high) (h3 : high ≤ 1000000) (hl : high < low') (hb : -1000000 ≤ b) (hb2 : b ≤ 1000000) (ha : s = false → b ≠ 0) :
    Row (ps ++ [⟨some low, some high, s, b⟩]) low' := by
  have hf := far_big
  refine ⟨fun p hp => ?_, apart_snoc _ ps r.apart fun p hp => ?_, fun p hp => ?_⟩
  · rcases List.mem_append.mp hp with hp | hp
    · exact r.all p hp
    · obtain rfl := List.mem_singleton.mp hp
      refine ⟨⟨fun i e => ?_, fun i e => ?_, fun i j e1 e2 => ?_, by show -far ≤ b; omega, by show b ≤ far; omega, ha⟩, ⟨low, rfl⟩, ⟨high, rfl⟩⟩
      · cases e; omega
      · cases e; omega
      · cases e1; cases e2; exact h2
  · obtain ⟨h, e, hh⟩ := r.last p hp
    exact ⟨h, low, e, rfl, hh⟩
  · rw [List.getLast?_append] at hp
    cases hp
    exact ⟨high, rfl, hl⟩
/-- the law's pieces are small -/
structure PcSm (m : Int) (p : Pc) : Prop where
  lo : ∀ i, p.lo = some i → -20 ≤ i ∧ i ≤ 44
  hi : ∀ i, p.hi = some i → -20 ≤ i ∧ i ≤ 44
  add : p.set = false → -m ≤ p.by_ ∧ p.by_ ≤ m
  set : p.set = true → -22 ≤ p.by_ ∧ p.by_ ≤ 41
theorem mem3 {d a b c : D} (h : d ∈ [a, b, c]) : d = a ∨ d = b ∨ d = c := by simpa using h
/-- one turn's piece -/
theorem change_turn {μ : Sto} {k : Nat} {most : Int} {ps : List Pc} {low : Int} {x4 x5 x6 x7 : Option W} (h : DrumAt μ k) (hm : 0 < most) (hm2 : most ≤ 1000) (hl : -1000000 ≤ low + 0) (r : Row ps low) (hlo : -20 ≤ low) (hhi : low ≤ 30) (hlen : ps.length < 1000) (j : D) :
    ∃ p low' μ' h w b, Row (ps ++ [p]) low' ∧ PcSm most p ∧ low ≤ low' ∧ low' ≤ low + 19 ∧ Rolled k μ μ' ∧
      (sSeq (sAsg 5 (eOp dAdd (eVar 3) (eCall g__law_some (aCons (eVar 0) (aCons (eLst (aCons (eInt 0) (aCons (eInt 2) (aCons (eInt 5) (aCons (eInt 9) (aCons (eInt 14) aNil)))))) aNil)))))
    (sSeq (sAsg 6 (eCall g__law_some (aCons (eVar 0) (aCons (eLst (aCons (eStr "add") (aCons (eStr "add") (aCons (eStr "add") (aCons (eStr "set") aNil))))) aNil))))
    (sSeq (sAsg 7 (eIf (eOp dEq (eVar 6) (eStr "add")) (eOp dMul (eCall g__law_some (aCons (eVar 0) (aCons (eLst (aCons (eUn dNeg (eInt 1)) (aCons (eInt 1) (aCons (eInt 1) aNil)))) aNil))) (eOp dAdd (eInt 1) (eCall g__law_roll (aCons (eVar 0) (aCons (eVar 1) aNil))))) (eOp dAdd (eUn dNeg (eInt 22)) (eCall g__law_roll (aCons (eVar 0) (aCons (eInt 64) aNil))))))
    (sSeq (sDrop (eApp (eVar 2) (eTup (aCons (eVar 3) (aCons (eVar 5) (aCons (eVar 6) (aCons (eVar 7) aNil)))))))
    (sAsg 3 (eOp dAdd (eOp dAdd (eVar 5) (eInt 1)) (eCall g__law_some (aCons (eVar 0) (aCons (eLst (aCons (eInt 0) (aCons (eInt 0) (aCons (eInt 1) (aCons (eInt 4) aNil))))) aNil))))))))) 
      [some (.m k), some (.d (.int most)), some (.m μ.length), some (.d (.int low)), x4, x5, x6, x7] (μ ++ [some (.lst (ps.map Pc.d))]) =
      .nx [some (.m k), some (.d (.int most)), some (.m μ.length), some (.d (.int low')), x4, h, w, b] (μ' ++ [some (.lst ((ps ++ [p]).map Pc.d))]) := by
  have hk := h.lt
  obtain ⟨d1, μ1', m1, r1', e1⟩ := some_spec (l := [.int 0, .int 2, .int 5, .int 9, .int 14]) (h.app [some (.lst (ps.map Pc.d))]) (by simp) (by simp)
  obtain ⟨μ1, rfl, r1⟩ := r1'.app hk
  obtain ⟨a1, rfl, a1l, a1h⟩ : ∃ a, d1 = .int a ∧ 0 ≤ a ∧ a ≤ 14 := by
    simp at m1
    rcases m1 with rfl | rfl | rfl | rfl | rfl <;> exact ⟨_, rfl, by decide, by decide⟩
  have h1 := r1.at_ hk
  have k1 := h1.lt
  obtain ⟨d2, μ2', m2, r2', e2⟩ := some_spec (l := [.str "add", .str "add", .str "add", .str "set"]) (h1.app [some (.lst (ps.map Pc.d))]) (by simp) (by simp)
  obtain ⟨μ2, rfl, r2⟩ := r2'.app k1
  have h2 := r2.at_ k1
  have k2 := h2.lt
  -- the step
  obtain ⟨sb, b, μ3, r3, rfl, hb1, hb2, hb3, hb4, hb5, eb⟩ : ∃ (sb : Bool) (b : Int) (μ3 : Sto), Rolled k μ2 μ3 ∧ d2 = .str (wd sb) ∧ -1000000 ≤ b ∧ b ≤ 1000000 ∧ (sb = false → b ≠ 0) ∧ (sb = false → -most ≤ b ∧ b ≤ most) ∧ (sb = true → -22 ≤ b ∧ b ≤ 41) ∧
      (eIf (eOp dEq (eVar 6) (eStr "add")) (eOp dMul (eCall g__law_some (aCons (eVar 0) (aCons (eLst (aCons (eUn dNeg (eInt 1)) (aCons (eInt 1) (aCons (eInt 1) aNil)))) aNil))) (eOp dAdd (eInt 1) (eCall g__law_roll (aCons (eVar 0) (aCons (eVar 1) aNil))))) (eOp dAdd (eUn dNeg (eInt 22)) (eCall g__law_roll (aCons (eVar 0) (aCons (eInt 64) aNil)))))
        [some (.m k), some (.d (.int most)), some (.m μ.length), some (.d (.int low)), x4, some (.d (.int (low + a1))), some (.d d2), x7] (μ2 ++ [some (.lst (ps.map Pc.d))]) = .ok (.d (.int b)) (μ3 ++ [some (.lst (ps.map Pc.d))]) := by
    have hd : d2 = .str "add" ∨ d2 = .str "set" := by
      simp at m2
      rcases m2 with h | h
      · exact .inl h
      · exact .inr h
    rcases hd with rfl | rfl
    · obtain ⟨d3, μ3', m3, r3', e3⟩ := some_spec (l := [.int (-1), .int 1, .int 1]) (h2.app [some (.lst (ps.map Pc.d))]) (by simp) (by simp)
      obtain ⟨μ3, rfl, r3⟩ := r3'.app k2
      have h3 := r3.at_ k2
      have k3 := h3.lt
      obtain ⟨q, μ4', q1, q2, r4', e4⟩ := roll_spec (many := most) (h3.app [some (.lst (ps.map Pc.d))]) hm (Int.lt_of_le_of_lt hm2 (by decide +kernel))
      obtain ⟨μ4, rfl, r4⟩ := r4'.app k3
      have dq : dEq (.str "add") (.str "add") = some (.bool true) := by kernel_rfl
      have hd3 : d3 = .int (-1) ∨ d3 = .int 1 := by
        simp at m3
        exact m3
      rcases hd3 with rfl | rfl
      · refine ⟨false, -1 * (1 + q), μ4, r3.trans r4, rfl, by omega, by omega, fun _ => by omega, fun _ => ⟨by omega, by omega⟩, fun h => (nomatch h), ?_⟩
        simp [e3, e4, dq, x_mulI (mulOk_l (a := -1) (b := 1 + q) (by decide))]
      · refine ⟨false, 1 * (1 + q), μ4, r3.trans r4, rfl, by omega, by omega, fun _ => by omega, fun _ => ⟨by omega, by omega⟩, fun h => (nomatch h), ?_⟩
        simp [e3, e4, dq, x_mulI (mulOk_l (a := 1) (b := 1 + q) (by decide))]
    · obtain ⟨q, μ4', q1, q2, r4', e4⟩ := roll_spec (many := 64) (h2.app [some (.lst (ps.map Pc.d))]) (by decide) (by decide)
      obtain ⟨μ4, rfl, r4⟩ := r4'.app k2
      have dq : dEq (.str "set") (.str "add") = some (.bool false) := by kernel_rfl
      refine ⟨true, -22 + q, μ4, r4, rfl, by omega, by omega, fun h => (nomatch h), fun h => (nomatch h), fun _ => ⟨by omega, by omega⟩, ?_⟩
      simp [e4, dq]
  have h3 := r3.at_ k2
  have k3 := h3.lt
  have l3 : μ3.length = μ.length := by rw [r3.len, r2.len, r1.len]
  obtain ⟨d5, μ5', m5, r5', e5⟩ := some_spec (l := [.int 0, .int 0, .int 1, .int 4]) (h3.app [some (.lst (ps.map Pc.d ++ [Pc.d ⟨some low, some (low + a1), sb, b⟩]))]) (by simp) (by simp)
  obtain ⟨μ5, rfl, r5⟩ := r5'.app k3
  obtain ⟨a5, rfl, a5l, a5h⟩ : ∃ a, d5 = .int a ∧ 0 ≤ a ∧ a ≤ 4 := by
    simp at m5
    rcases m5 with rfl | rfl | rfl <;> exact ⟨_, rfl, by decide, by decide⟩
  refine ⟨⟨some low, some (low + a1), sb, b⟩, low + a1 + 1 + a5, μ5, some (.d (.int (low + a1))), some (.d (.str (wd sb))), some (.d (.int b)), r.snoc (by omega) (by omega) (by omega) (by omega) hb1 hb2 hb3, ⟨fun i e => by (cases e; omega), fun i e => by (cases e; omega), hb4, hb5⟩, by omega, by omega, ((r1.trans r2).trans r3).trans r5, ?_⟩
  have ml : mlist (μ3 ++ [some (.lst (ps.map Pc.d))]) μ.length = some (ps.map Pc.d) := by rw [← l3]; exact ml_last _ _
  have hL : (ps.map Pc.d).length < LIM := by
    rw [List.length_map]
    exact Nat.lt_of_lt_of_le hlen (by decide)
  have sl : (μ3 ++ [some (Cell.lst (ps.map Pc.d))]).set μ.length (some (Cell.lst (ps.map Pc.d ++ [Pc.d ⟨some low, some (low + a1), sb, b⟩]))) = μ3 ++ [some (Cell.lst (ps.map Pc.d ++ [Pc.d ⟨some low, some (low + a1), sb, b⟩]))] := by rw [← l3]; exact set_last _ _ _
  rw [x_sSeq, x_sAsg]
  simp only [x_eOp, x_eVar, x_eCall, x_aCons, x_aNil, x_eLst, x_eInt, R.bind_ok, asDs_cons, asDs_nil, Option.map_some, ofO_some, List.getElem?_cons_zero, List.getElem?_cons_succ, e1, view_d, Option.bind_some, x_addI, R.bindS_ok, List.set_cons_zero, List.set_cons_succ]
  rw [x_sSeq, x_sAsg]
  simp only [x_eOp, x_eVar, x_eCall, x_aCons, x_aNil, x_eLst, x_eStr, R.bind_ok, asDs_cons, asDs_nil, Option.map_some, ofO_some, List.getElem?_cons_zero, List.getElem?_cons_succ, e2, view_d, Option.bind_some, x_addI, R.bindS_ok, List.set_cons_zero, List.set_cons_succ]
  rw [x_sSeq, x_sAsg, eb]
  have hL2 : ps.length < LIM := by rwa [List.length_map] at hL
  simp [ml, hL2]
  have sl2 := sl
  simp [Pc.d] at sl2 e5 ⊢
  rw [sl2, e5]
  simp
/-- an end taken away -/
def Pc.noLo (p : Pc) : Pc := { p with lo := none }
def Pc.noHi (p : Pc) : Pc := { p with hi := none }
theorem PcOk.noLo {p : Pc} (h : PcOk p) : PcOk p.noLo := ⟨(fun i e => by cases e), h.hi, (fun i j e => by cases e), h.by1, h.by2, h.add⟩
theorem PcOk.noHi {p : Pc} (h : PcOk p) : PcOk p.noHi := ⟨h.lo, (fun i e => by cases e), (fun i j _ e => by cases e), h.by1, h.by2, h.add⟩
theorem PcSm.noLo {m : Int} {p : Pc} (h : PcSm m p) : PcSm m p.noLo := ⟨(fun i e => by cases e), h.hi, h.add, h.set⟩
theorem PcSm.noHi {m : Int} {p : Pc} (h : PcSm m p) : PcSm m p.noHi := ⟨h.lo, (fun i e => by cases e), h.add, h.set⟩
theorem ChOk.first {p : Pc} {r : List Pc} (h : ChOk (p :: r)) : ChOk (p.noLo :: r) :=
  ⟨h.one, h.four, fun q hq => by
    rcases List.mem_cons.mp hq with rfl | hq
    · exact (h.all p List.mem_cons_self).noLo
    · exact h.all q (List.mem_cons_of_mem _ hq), apart_first (p := p) (p' := p.noLo) rfl r h.apart⟩
theorem ChOk.last {p : Pc} {r : List Pc} (h : ChOk (r ++ [p])) : ChOk (r ++ [p.noHi]) :=
  ⟨by simp, by have := h.four; simpa using this, fun q hq => by
    rcases List.mem_append.mp hq with hq | hq
    · exact h.all q (List.mem_append_left _ hq)
    · obtain rfl := List.mem_singleton.mp hq
      exact (h.all p (List.mem_append_right _ List.mem_cons_self)).noHi, apart_last (p := p) (p' := p.noHi) rfl r h.apart⟩
theorem cut_first (p : Pc) : dCut p.d (some 1) none = some (.tuple [oD p.hi, .str (wd p.set), .int p.by_]) := rfl
theorem cut_last (p : Pc) : dCut p.d (some 2) none = some (.tuple [.str (wd p.set), .int p.by_]) := rfl
theorem ix_lo (p : Pc) : dIx p.d (.int 0) = some (oD p.lo) := rfl
theorem dEqI0 (i : Int) : dEq (.int i) (.int 0) = some (.bool (i == 0)) := rfl
theorem first_if {μ : Sto} {k : Nat} {p : Pc} {r : List Pc} {x1 x3 x4 x5 x6 x7 : Option W} (h : DrumAt μ k) (hc : ChOk (p :: r)) : ∃ ps μ', ChOk ps ∧ (∀ m, (∀ q ∈ p :: r, PcSm m q) → ∀ q ∈ ps, PcSm m q) ∧ ps.length = r.length + 1 ∧ Rolled k μ μ' ∧
    sIf (eOp dEq (eCall g__law_roll (aCons (eVar 0) (aCons (eInt 6) aNil))) (eInt 0)) (sSub (eVar 2) (eInt 0) (eOp dAdd (eTup (aCons eNon aNil)) (eSl dCut (eOp dIx (eVar 2) (eInt 0)) (some (eInt 1)) none))) sNil
      [some (.m k), x1, some (.m μ.length), x3, x4, x5, x6, x7] (μ ++ [some (.lst ((p :: r).map Pc.d))]) = .nx [some (.m k), x1, some (.m μ.length), x3, x4, x5, x6, x7] (μ' ++ [some (.lst (ps.map Pc.d))]) := by
  obtain ⟨q, μ1', ql, qh, r1', e1⟩ := roll_spec (many := 6) (h.app [some (.lst ((p :: r).map Pc.d))]) (by decide) (by decide +kernel)
  obtain ⟨μ1, rfl, r1⟩ := r1'.app h.lt
  have l1 := r1.len
  have ml : mlist (μ1 ++ [some (Cell.lst ((p :: r).map Pc.d))]) μ.length = some ((p :: r).map Pc.d) := by rw [← l1]; exact ml_last _ _
  by_cases hq : q = 0
  · subst hq
    refine ⟨p.noLo :: r, μ1, hc.first, fun m hm q hq => ?_, rfl, r1, ?_⟩
    · rcases List.mem_cons.mp hq with rfl | hq
      · exact (hm p List.mem_cons_self).noLo
      · exact hm q (List.mem_cons_of_mem _ hq)
    have sl : (μ1 ++ [some (Cell.lst ((p :: r).map Pc.d))]).set μ.length (some (Cell.lst ((p.noLo :: r).map Pc.d))) = μ1 ++ [some (Cell.lst ((p.noLo :: r).map Pc.d))] := by rw [← l1]; exact set_last _ _ _
    have ta : dAdd (.tuple [.none]) (.tuple [oD p.hi, .str (wd p.set), .int p.by_]) = some p.noLo.d := rfl
    have i0 : ixI ((p :: r).map Pc.d).length 0 = some 0 := by simp [ixI]
    have d0 : dIx (.list ((p :: r).map Pc.d)) (.int 0) = some p.d := by simp [dIx, ixI]
    have s0 : ((p :: r).map Pc.d).set 0 p.noLo.d = (p.noLo :: r).map Pc.d := rfl
    rw [x_sIf]
    simp only [x_eOp, x_eCall, x_aCons, x_aNil, x_eVar, x_eInt, List.getElem?_cons_zero, List.getElem?_cons_succ, R.bind_ok, e1, view_d, Option.bind_some, Option.map_some, ofO_some, dEqI0, RS.test_ok, beq_self_eq_true, if_true, x_sSub, x_eTup, x_eNon, asDs_cons, asDs_nil, x_eSl, x_view_m, ml, d0, x_part1, x_part0, cut_first, ta, R.bindS_ok, i0, s0, sl]
  · refine ⟨p :: r, μ1, hc, fun m hm => hm, rfl, r1, ?_⟩
    have hq2 : (q == 0) = false := by simpa using hq
    rw [x_sIf]
    simp only [x_eOp, x_eCall, x_aCons, x_aNil, x_eVar, x_eInt, List.getElem?_cons_zero, List.getElem?_cons_succ, R.bind_ok, e1, view_d, Option.bind_some, Option.map_some, ofO_some, dEqI0, RS.test_ok, hq2, x_sNil]
    rfl
theorem last_if {μ : Sto} {k : Nat} {p : Pc} {r : List Pc} {x1 x3 x4 x5 x6 x7 : Option W} (h : DrumAt μ k) (hc : ChOk (r ++ [p])) : ∃ ps μ', ChOk ps ∧ (∀ m, (∀ q ∈ r ++ [p], PcSm m q) → ∀ q ∈ ps, PcSm m q) ∧ ps.length = r.length + 1 ∧ Rolled k μ μ' ∧
    sIf (eOp dEq (eCall g__law_roll (aCons (eVar 0) (aCons (eInt 6) aNil))) (eInt 0)) (sSub (eVar 2) (eUn dNeg (eInt 1)) (eOp dAdd (eTup (aCons (eOp dIx (eOp dIx (eVar 2) (eUn dNeg (eInt 1))) (eInt 0)) (aCons eNon aNil))) (eSl dCut (eOp dIx (eVar 2) (eUn dNeg (eInt 1))) (some (eInt 2)) none))) sNil
      [some (.m k), x1, some (.m μ.length), x3, x4, x5, x6, x7] (μ ++ [some (.lst ((r ++ [p]).map Pc.d))]) = .nx [some (.m k), x1, some (.m μ.length), x3, x4, x5, x6, x7] (μ' ++ [some (.lst (ps.map Pc.d))]) := by
  obtain ⟨q, μ1', ql, qh, r1', e1⟩ := roll_spec (many := 6) (h.app [some (.lst ((r ++ [p]).map Pc.d))]) (by decide) (by decide +kernel)
  obtain ⟨μ1, rfl, r1⟩ := r1'.app h.lt
  have l1 := r1.len
  have ml : mlist (μ1 ++ [some (Cell.lst ((r ++ [p]).map Pc.d))]) μ.length = some ((r ++ [p]).map Pc.d) := by rw [← l1]; exact ml_last _ _
  by_cases hq : q = 0
  · subst hq
    refine ⟨r ++ [p.noHi], μ1, hc.last, fun m hm q hq => ?_, by simp, r1, ?_⟩
    · rcases List.mem_append.mp hq with hq | hq
      · exact hm q (List.mem_append_left _ hq)
      · rw [List.mem_singleton.mp hq]
        exact (hm p (by simp)).noHi
    have sl : (μ1 ++ [some (Cell.lst ((r ++ [p]).map Pc.d))]).set μ.length (some (Cell.lst ((r ++ [p.noHi]).map Pc.d))) = μ1 ++ [some (Cell.lst ((r ++ [p.noHi]).map Pc.d))] := by rw [← l1]; exact set_last _ _ _
    have ta : dAdd (.tuple [oD p.lo, .none]) (.tuple [.str (wd p.set), .int p.by_]) = some p.noHi.d := rfl
    have i0 : ixI ((r ++ [p]).map Pc.d).length (-1) = some r.length := by rw [List.length_map, List.length_append]; exact ixI_last _
    have d0 : dIx (.list ((r ++ [p]).map Pc.d)) (.int (-1)) = some p.d := by rw [List.map_append]; exact ixL _ _
    have s0 : ((r ++ [p]).map Pc.d).set r.length p.noHi.d = (r ++ [p.noHi]).map Pc.d := by simp
    rw [x_sIf]
    simp only [x_eOp, x_eUn, x_negI, x_eCall, x_aCons, x_aNil, x_eVar, x_eInt, List.getElem?_cons_zero, List.getElem?_cons_succ, R.bind_ok, e1, view_d, Option.bind_some, Option.map_some, ofO_some, dEqI0, RS.test_ok, beq_self_eq_true, if_true, x_sSub, x_eTup, x_eNon, asDs_cons, asDs_nil, x_eSl, x_view_m, ml, d0, ix_lo, x_part1, x_part0, cut_last, ta, R.bindS_ok, i0, s0, sl]
  · refine ⟨r ++ [p], μ1, hc, fun m hm => hm, by simp, r1, ?_⟩
    have hq2 : (q == 0) = false := by simpa using hq
    rw [x_sIf]
    simp only [x_eOp, x_eCall, x_aCons, x_aNil, x_eVar, x_eInt, List.getElem?_cons_zero, List.getElem?_cons_succ, R.bind_ok, e1, view_d, Option.bind_some, Option.map_some, ofO_some, dEqI0, RS.test_ok, hq2, x_sNil]
    rfl
theorem change_spec {μ : Sto} {k : Nat} {most : Int} (h : DrumAt μ k) (hm : 0 < most) (hm2 : most ≤ 1000) :
    ∃ ps μ', ChOk ps ∧ (∀ p ∈ ps, PcSm most p) ∧ ps.length ≤ 3 ∧ Rolled k μ μ' ∧ g__law_change [.m k, .d (.int most)] μ = .ok (.d (.tuple (ps.map Pc.d))) μ' := by
  have hk := h.lt
  obtain ⟨q1, μ1', q1l, q1h, r1', e1⟩ := roll_spec (many := 8) (h.app [some (.lst [])]) (by decide) (by decide)
  obtain ⟨μ1, rfl, r1⟩ := r1'.app hk
  have h1 := r1.at_ hk
  have k1 := h1.lt
  obtain ⟨q2, μ2', q2l, q2h, r2', e2⟩ := roll_spec (many := 3) (h1.app [some (.lst [])]) (by decide) (by decide)
  obtain ⟨μ2, rfl, r2⟩ := r2'.app k1
  have h2 := r2.at_ k1
  have k2 := h2.lt
  have l2 : μ2.length = μ.length := by rw [r2.len, r1.len]
  rw [show g__law_change = fnOf 2 8 F__law_change from rfl, fnOf2]
  unfold F__law_change
  rw [x_sSeq, x_sPar]
  simp only [List.map_cons, List.map_nil, List.length_cons, List.length_nil, x_eLstM, x_aNil, R.bind_ok, asDs_nil, R.bindS_ok, x_eOp, x_eUn, x_eInt, view_d, Option.bind_some, Option.map_some, ofO_some, x_negI, x_eCall, x_aCons, x_eVar,
    List.replicate, Nat.reduceSub, List.cons_append, List.nil_append, List.getElem?_cons_zero, List.getElem?_cons_succ, e1, x_addI, List.set_cons_zero, List.set_cons_succ]
  rw [x_sSeq, x_sFor, x_iRange1]
  simp only [x_eOp, x_eInt, x_eCall, x_aCons, x_aNil, x_eVar, List.getElem?_cons_zero, R.bind_ok, view_d, Option.bind_some, Option.map_some, ofO_some, e2, x_addI]
  have hr : -(LIM : Int) ≤ 1 + q2 ∧ 1 + q2 ≤ LIM := by unfold LIM; omega
  rw [if_pos hr, R.bindS_ok]
  obtain ⟨ρ3, μ3, e3, ps, low, μ4, x4, x5, x6, x7, rfl, rfl, hlen, hrow, hsm, hlo, hhi, r4⟩ := forL_count (t := tName 4) (B := (sSeq (sAsg 5 (eOp dAdd (eVar 3) (eCall g__law_some (aCons (eVar 0) (aCons (eLst (aCons (eInt 0) (aCons (eInt 2) (aCons (eInt 5) (aCons (eInt 9) (aCons (eInt 14) aNil)))))) aNil)))))
    (sSeq (sAsg 6 (eCall g__law_some (aCons (eVar 0) (aCons (eLst (aCons (eStr "add") (aCons (eStr "add") (aCons (eStr "add") (aCons (eStr "set") aNil))))) aNil))))
    (sSeq (sAsg 7 (eIf (eOp dEq (eVar 6) (eStr "add")) (eOp dMul (eCall g__law_some (aCons (eVar 0) (aCons (eLst (aCons (eUn dNeg (eInt 1)) (aCons (eInt 1) (aCons (eInt 1) aNil)))) aNil))) (eOp dAdd (eInt 1) (eCall g__law_roll (aCons (eVar 0) (aCons (eVar 1) aNil))))) (eOp dAdd (eUn dNeg (eInt 22)) (eCall g__law_roll (aCons (eVar 0) (aCons (eInt 64) aNil))))))
    (sSeq (sDrop (eApp (eVar 2) (eTup (aCons (eVar 3) (aCons (eVar 5) (aCons (eVar 6) (aCons (eVar 7) aNil)))))))
    (sAsg 3 (eOp dAdd (eOp dAdd (eVar 5) (eInt 1)) (eCall g__law_some (aCons (eVar 0) (aCons (eLst (aCons (eInt 0) (aCons (eInt 0) (aCons (eInt 1) (aCons (eInt 4) aNil)))))  aNil)))))))))) (fun i ρ ν => ∃ ps low μ4 x4 x5 x6 x7, ρ = [some (.m k), some (.d (.int most)), some (.m μ.length), some (.d (.int low)), x4, x5, x6, x7] ∧ ν = μ4 ++ [some (.lst (ps.map Pc.d))] ∧
      ps.length = i ∧ Row ps low ∧ (∀ p ∈ ps, PcSm most p) ∧ -20 ≤ low ∧ low ≤ -12 + 19 * i ∧ Rolled k μ μ4) 3 (rangeD 0 (1 + q2)) 0 [some (.m k), some (.d (.int most)), some (.m μ.length), some (.d (.int (-20 + q1))), none, none, none, none] (μ2 ++ [some (.lst [])]) (by rw [x_rangeD_len]; omega)
    ⟨[], -20 + q1, μ2, _, _, _, _, rfl, rfl, rfl, ⟨fun p hp => (by cases hp), True.intro, fun p hp => (by cases hp)⟩, fun p hp => (by cases hp), by omega, by omega, r1.trans r2⟩ (by
      rintro i d ρ ν hi - ⟨ps, low, μ4, x4, x5, x6, x7, rfl, rfl, hl, hrow, hsm, hlo, hhi, r4⟩
      have h4 := r4.at_ hk
      have l4 := r4.len
      obtain ⟨p, low', μ5, y5, y6, y7, hrow', hp', g1, g2, r5, e5⟩ := change_turn (x4 := some (.d d)) (x5 := x5) (x6 := x6) (x7 := x7) h4 hm hm2 (by omega) hrow hlo (by omega) (by omega) .none
      rw [l4] at e5
      exact ⟨_, rfl, _, _, e5, ps ++ [p], low', μ5, _, _, _, _, rfl, rfl, by simp [hl], hrow', (fun q hq => by
        rcases List.mem_append.mp hq with hq | hq
        · exact hsm q hq
        · rw [List.mem_singleton.mp hq]; exact hp'), by omega, by push_cast; omega, r4.trans r5⟩)
  rw [e3]
  dsimp only
  have hps : ps.length = (1 + q2).toNat := by rw [hlen, x_rangeD_len]; omega
  have h4 := r4.at_ hk
  have hch : ChOk ps := ⟨by omega, by omega, fun p hp => (hrow.all p hp).1, hrow.apart⟩
  obtain ⟨p, r, rfl⟩ : ∃ p r, ps = p :: r := by
    cases ps with
    | nil => have := hch.one; simp at this
    | cons p r => exact ⟨p, r, rfl⟩
  obtain ⟨ps5, μ5, hc5, hs5, hl5, r5, e5⟩ := first_if (x1 := some (.d (.int most))) (x3 := some (.d (.int low))) (x4 := x4) (x5 := x5) (x6 := x6) (x7 := x7) h4 hch
  have l4 := r4.len
  rw [l4] at e5
  rw [x_sSeq, e5]
  dsimp only
  have h5 := r5.at_ h4.lt
  obtain ⟨r', p', rfl⟩ : ∃ r' p', ps5 = r' ++ [p'] := by
    have hne : ps5 ≠ [] := fun e => by rw [e] at hl5; cases hl5
    exact ⟨ps5.dropLast, ps5.getLast hne, (List.dropLast_concat_getLast hne).symm⟩
  obtain ⟨ps6, μ6, hc6, hs6, hl6, r6, e6⟩ := last_if (x1 := some (.d (.int most))) (x3 := some (.d (.int low))) (x4 := x4) (x5 := x5) (x6 := x6) (x7 := x7) h5 hc5
  rw [r5.len, l4] at e6
  rw [x_sSeq, e6]
  dsimp only
  have l6 : μ6.length = μ.length := by rw [r6.len, r5.len, l4]
  have ml : mlist (μ6 ++ [some (Cell.lst (ps6.map Pc.d))]) μ.length = some (ps6.map Pc.d) := by rw [← l6]; exact ml_last _ _
  refine ⟨ps6, μ6, hc6, hs6 _ (hs5 _ hsm), ?_, (r4.trans r5).trans r6, ?_⟩
  · simp at hl5 hps
    omega
  · rw [← l6] at ml
    simp [ml, bTup, fin, ← l6]
end Pure

set_option linter.all false
set_option Elab.async false
set_option maxRecDepth 100000
set_option maxHeartbeats 1000000
/-! The plain law: what the program's checks answer, of any data. -/
namespace Pure
open PySem Mi Mir
def wholeD (d : D) (lo hi : Int) : Bool := match d with
  | .int v => decide (lo ≤ v) && decide (v ≤ hi)
  | _ => false
theorem whole_spec (d : D) (lo hi : Int) (μ : Sto) : g_is_whole [.d d, .d (.int lo), .d (.int hi)] μ = .ok (.d (.bool (wholeD d lo hi))) μ := by
  rw [show g_is_whole = fnOf 3 3 F_is_whole from rfl, fnOf3]
  have e : ∀ b : Bool, fin μ.length (.rt (.d (.bool b)) μ) = .ok (.d (.bool b)) μ := fun b => x_fin _ _ _ rfl
  cases d <;> simp [F_is_whole, isTy, wholeD, e]
  rename_i v
  by_cases h1 : lo ≤ v <;> simp [h1, e]
def isNonD : D → Bool
  | .none => true
  | _ => false
theorem isNonW_d (d : D) : isNonW (.d d) = isNonD d := by cases d <;> rfl
def endD (d : D) : Bool := isNonD d || wholeD d (-far) far
theorem end_spec (d : D) (μ : Sto) : g_is_end [.d d] μ = .ok (.d (.bool (endD d))) μ := by
  rw [show g_is_end = fnOf 1 1 F_is_end from rfl, fnOf1]
  have e : ∀ b : Bool, fin μ.length (.rt (.d (.bool b)) μ) = .ok (.d (.bool b)) μ := fun b => x_fin _ _ _ rfl
  have w := whole_spec d (-far) far μ
  unfold far at w
  cases h : isNonD d <;> simp [F_is_end, isNonW_d, endD, e, h, w, far]
def leD : D → D → Bool
  | .int a, .int b => decide (a ≤ b)
  | _, _ => false
def endsD (l h : D) : Bool := endD l && (endD h && (isNonD l || (isNonD h || leD l h)))
theorem end_int {d : D} (h : endD d = true) (n : isNonD d = false) : ∃ i, d = .int i ∧ -far ≤ i ∧ i ≤ far := by
  unfold endD at h
  rw [n] at h
  cases d <;> simp [wholeD] at h
  exact ⟨_, rfl, h.1, h.2⟩
theorem ends_spec (l h : D) (μ : Sto) : g_are_ends [.d l, .d h] μ = .ok (.d (.bool (endsD l h))) μ := by
  rw [show g_are_ends = fnOf 2 2 F_are_ends from rfl, fnOf2]
  have e : ∀ b : Bool, fin μ.length (.rt (.d (.bool b)) μ) = .ok (.d (.bool b)) μ := fun b => x_fin _ _ _ rfl
  cases h1 : endD l with
  | false => simp [F_are_ends, end_spec, h1, endsD, e]
  | true =>
    cases h2 : endD h with
    | false => simp [F_are_ends, end_spec, h1, h2, endsD, e]
    | true =>
      cases h3 : isNonD l with
      | true => simp [F_are_ends, end_spec, h1, h2, isNonW_d, h3, endsD, e]
      | false =>
        cases h4 : isNonD h with
        | true => simp [F_are_ends, end_spec, h1, h2, isNonW_d, h3, h4, endsD, e]
        | false =>
          obtain ⟨i, rfl, _⟩ := end_int h1 h3
          obtain ⟨j, rfl, _⟩ := end_int h2 h4
          simp [F_are_ends, end_spec, h1, h2, endsD, leD, e, isNonD]
def nzD : D → Bool
  | .int v => !(v == 0)
  | _ => false
def pieceD : D → Bool
  | .tuple [l, h, .str w, b] => endsD l h && (wholeD b (-far) far && (w == "set" || (w == "add" && nzD b)))
  | _ => false
theorem whole_int {d : D} {lo hi : Int} (h : wholeD d lo hi = true) : ∃ i, d = .int i ∧ lo ≤ i ∧ i ≤ hi := by
  cases d <;> simp [wholeD] at h
  exact ⟨_, rfl, h.1, h.2⟩
theorem sh_set : SeqAt.shaped (.str "set") = true := by kernel_rfl
theorem sh_add : SeqAt.shaped (.str "add") = true := by kernel_rfl
theorem ix4_0 (a : D) (l : List D) : dIx (.tuple (a :: l)) (.int 0) = some a := by simp [dIx, ixI]
theorem ixN (l : List D) (n : Nat) (h : n < l.length) : dIx (.tuple l) (.int (n : Int)) = some l[n] := by simp [dIx, ixI, h]
theorem piece_spec (d : D) (hs : SeqAt.shaped d = true) (μ : Sto) : g_is_piece [.d d] μ = .ok (.d (.bool (pieceD d))) μ := by
  rw [show g_is_piece = fnOf 1 1 F_is_piece from rfl, fnOf1]
  have e : ∀ b : Bool, fin μ.length (.rt (.d (.bool b)) μ) = .ok (.d (.bool b)) μ := fun b => x_fin _ _ _ rfl
  cases d with
  | tuple l =>
    match l, hs with
    | [], _ => simp [F_is_piece, isTy, bLen, dNeI, pieceD, e]
    | [_], _ => simp [F_is_piece, isTy, bLen, dNeI, pieceD, e]
    | [_, _], _ => simp [F_is_piece, isTy, bLen, dNeI, pieceD, e]
    | [_, _, _], _ => simp [F_is_piece, isTy, bLen, dNeI, pieceD, e]
    | a :: b :: c :: f :: g :: r, _ =>
      have hl : ((r.length : Int) + 1 + 1 + 1 + 1 + 1 == 4) = false := by
        rw [beq_eq_false_iff_ne]; omega
      simp [F_is_piece, isTy, bLen, dNeI, pieceD, e, hl]
    | [a, b, c, f], hs =>
      have i0 : dIx (.tuple [a, b, c, f]) (.int 0) = some a := rfl
      have i1 : dIx (.tuple [a, b, c, f]) (.int 1) = some b := rfl
      have i2 : dIx (.tuple [a, b, c, f]) (.int 2) = some c := rfl
      have i3 : dIx (.tuple [a, b, c, f]) (.int 3) = some f := rfl
      have w := whole_spec f (-far) far μ
      unfold far at w
      cases h1 : endsD a b with
      | false => cases c <;> simp [F_is_piece, isTy, bLen, dNeI, pieceD, e, i0, i1, ends_spec, h1]
      | true =>
        cases c with
        | str x =>
          have hx := shaped_tup hs (.str x) (by simp)
          cases h2 : wholeD f (-far) far with
          | false =>
            have h2' := h2
            unfold far at h2'
            simp [F_is_piece, isTy, bLen, dNeI, pieceD, e, i0, i1, i2, i3, ends_spec, h1, w, h2, h2']
          | true =>
            have h2' := h2
            unfold far at h2'
            obtain ⟨v, rfl, _⟩ := whole_int h2
            cases h3 : (x == ("set" : Str)) <;> cases h4 : (x == ("add" : Str)) <;> simp [F_is_piece, isTy, bLen, dNeI, pieceD, e, i0, i1, i2, i3, ends_spec, h1, w, h2, h2', dEqS hx sh_set, dEqS hx sh_add, h3, h4, nzD]
        | _ => simp [F_is_piece, isTy, bLen, dNeI, pieceD, e, i0, i1, i2, ends_spec, h1]
  | _ => simp [F_is_piece, isTy, pieceD, e]
def ltD : D → D → Bool
  | .int a, .int b => decide (a < b)
  | _, _ => false
def apD : D → D → Bool
  | .tuple [_, h, _, _], .tuple [l, _, _, _] => !isNonD h && (!isNonD l && ltD h l)
  | _, _ => false
theorem piece_form {d : D} (h : pieceD d = true) : ∃ a b w c, d = .tuple [a, b, .str w, c] ∧ endsD a b = true ∧ wholeD c (-far) far = true ∧ (w = "set" ∨ w = "add" ∧ nzD c = true) := by
  unfold pieceD at h
  split at h
  · rename_i a b w c
    simp only [Bool.and_eq_true, Bool.or_eq_true, beq_iff_eq] at h
    exact ⟨a, b, w, c, rfl, h.1, h.2.1, h.2.2⟩
  · cases h
theorem ends_parts {a b : D} (h : endsD a b = true) : endD a = true ∧ endD b = true := by
  unfold endsD at h
  simp only [Bool.and_eq_true] at h
  exact ⟨h.1, h.2.1⟩
theorem apart_spec {p q : D} (hp : pieceD p = true) (hq : pieceD q = true) (μ : Sto) : g_are_apart [.d p, .d q] μ = .ok (.d (.bool (apD p q))) μ := by
  obtain ⟨a, b, w, c, rfl, he, _⟩ := piece_form hp
  obtain ⟨a', b', w', c', rfl, he', _⟩ := piece_form hq
  rw [show g_are_apart = fnOf 2 2 F_are_apart from rfl, fnOf2]
  have e : ∀ b : Bool, fin μ.length (.rt (.d (.bool b)) μ) = .ok (.d (.bool b)) μ := fun b => x_fin _ _ _ rfl
  have i1 : dIx (.tuple [a, b, .str w, c]) (.int 1) = some b := rfl
  have i0 : dIx (.tuple [a', b', .str w', c']) (.int 0) = some a' := rfl
  cases h1 : isNonD b with
  | true => simp [F_are_apart, i1, isNonW_d, h1, e, apD]
  | false =>
    cases h2 : isNonD a' with
    | true => simp [F_are_apart, i1, i0, isNonW_d, h1, h2, e, apD]
    | false =>
      obtain ⟨i, rfl, _⟩ := end_int (ends_parts he).2 h1
      obtain ⟨j, rfl, _⟩ := end_int (ends_parts he').1 h2
      simp [F_are_apart, i1, i0, e, apD, ltD, isNonD]
def apAll : List D → Bool
  | p :: q :: r => apD p q && apAll (q :: r)
  | _ => true
def fitsCh : D → Bool
  | .tuple l => (decide (1 ≤ l.length) && decide (l.length ≤ 4)) && (l.all pieceD && apAll l)
  | _ => false
theorem allB_map {α : Type} (p : α → Bool) : ∀ l : List α, allB (l.map fun d => PyData.bool (p d)) = some (l.all p)
  | [] => rfl
  | d :: r => by
    rw [List.map_cons, allB, allB_map p r]
    rfl
theorem tru (b : Bool) : (b && true) = b := by cases b <;> rfl
theorem fits_change_spec (d : D) (hs : SeqAt.shaped d = true) (μ : Sto) : g_fits_change [.d d] μ = .ok (.d (.bool (fitsCh d))) μ := by
  rw [show g_fits_change = fnOf 1 3 F_fits_change from rfl, fnOf1]
  have e : ∀ b : Bool, fin μ.length (.rt (.d (.bool b)) μ) = .ok (.d (.bool b)) μ := fun b => x_fin _ _ _ rfl
  cases d with
  | tuple l =>
    have hl : ∀ x ∈ l, SeqAt.shaped x = true := shaped_tup hs
    have lc : ∀ ρ : Mi.Env, ρ.length = 3 → lcL (tName 2) eYes (eCall g_is_piece (aCons (eVar 2) aNil)) ρ l [] μ = .ok (.d (.list (l.map fun d => .bool (pieceD d)))) μ := fun ρ hρ => by
      rw [lc_map (fun d => .bool (pieceD d)) l [] fun d hd => ⟨ρ.set 2 (some (.d d)), rfl, rfl, ?_⟩]
      · rfl
      · simp [hρ, piece_spec d (hl d hd)]
    by_cases h1 : 1 ≤ l.length
    · by_cases h4 : l.length ≤ 4
      · have b1 : (1 : Int) ≤ l.length := by omega
        have b4 : (l.length : Int) ≤ 4 := by omega
        cases hp : l.all pieceD with
        | false =>
          simp [F_fits_change, isTy, bLen, b1, b4, items, lc, wipeE, bAll, allB_map pieceD, hp, e, fitsCh]
        | true =>
          have hp' : ∀ x ∈ l, pieceD x = true := List.all_eq_true.mp hp
          match l, h1, h4, hp', hl, hp with
          | [a], _, _, hp', hl', hp =>
            have pa := hp' a (by simp)
            have qa := piece_spec a (hl' a (by simp)) μ
            rw [pa] at qa
            simp [F_fits_change, isTy, bLen, items, qa, wipeE, bAll, hp, e, fitsCh, apAll, rangeD, LIM, lcL, allB, pa]
          | [a, b], _, _, hp', hl', hp =>
            have pa := hp' a (by simp)
            have qa := piece_spec a (hl' a (by simp)) μ
            rw [pa] at qa
            have pb := hp' b (by simp)
            have qb := piece_spec b (hl' b (by simp)) μ
            rw [pb] at qb
            have r1 : rangeD 0 1 = [.int 0] := rfl
            have i0 : dIx (.tuple [a, b]) (.int 0) = some a := rfl
            have i1 : dIx (.tuple [a, b]) (.int 1) = some b := rfl
            simp [F_fits_change, isTy, bLen, items, qa, qb, wipeE, bAll, e, fitsCh, apAll, LIM, r1, lcL, allB, i0, i1, apart_spec pa pb, pa, pb]
          | [a, b, c], _, _, hp', hl', hp =>
            have pa := hp' a (by simp)
            have qa := piece_spec a (hl' a (by simp)) μ
            rw [pa] at qa
            have pb := hp' b (by simp)
            have qb := piece_spec b (hl' b (by simp)) μ
            rw [pb] at qb
            have pc := hp' c (by simp)
            have qc := piece_spec c (hl' c (by simp)) μ
            rw [pc] at qc
            have r1 : rangeD 0 2 = [.int 0, .int 1] := rfl
            have i0 : dIx (.tuple [a, b, c]) (.int 0) = some a := rfl
            have i1 : dIx (.tuple [a, b, c]) (.int 1) = some b := rfl
            have i2 : dIx (.tuple [a, b, c]) (.int 2) = some c := rfl
            simp [F_fits_change, isTy, bLen, items, qa, qb, qc, wipeE, bAll, e, fitsCh, apAll, LIM, r1, lcL, allB, i0, i1, i2, apart_spec pa pb, apart_spec pb pc, pa, pb, pc]
          | [a, b, c, d], _, _, hp', hl', hp =>
            have pa := hp' a (by simp)
            have qa := piece_spec a (hl' a (by simp)) μ
            rw [pa] at qa
            have pb := hp' b (by simp)
            have qb := piece_spec b (hl' b (by simp)) μ
            rw [pb] at qb
            have pc := hp' c (by simp)
            have qc := piece_spec c (hl' c (by simp)) μ
            rw [pc] at qc
            have pd := hp' d (by simp)
            have qd := piece_spec d (hl' d (by simp)) μ
            rw [pd] at qd
            have r1 : rangeD 0 3 = [.int 0, .int 1, .int 2] := rfl
            have i0 : dIx (.tuple [a, b, c, d]) (.int 0) = some a := rfl
            have i1 : dIx (.tuple [a, b, c, d]) (.int 1) = some b := rfl
            have i2 : dIx (.tuple [a, b, c, d]) (.int 2) = some c := rfl
            have i3 : dIx (.tuple [a, b, c, d]) (.int 3) = some d := rfl
            simp [F_fits_change, isTy, bLen, items, qa, qb, qc, qd, wipeE, bAll, e, fitsCh, apAll, LIM, r1, lcL, allB, i0, i1, i2, i3, apart_spec pa pb, apart_spec pb pc, apart_spec pc pd, pa, pb, pc, pd]
      · have b1 : (1 : Int) ≤ l.length := by omega
        have b4 : ¬ (l.length : Int) ≤ 4 := by omega
        simp [F_fits_change, isTy, bLen, b1, b4, e, fitsCh, h4]
    · have h0 : l = [] := List.length_eq_zero_iff.mp (by omega)
      subst h0
      simp [F_fits_change, isTy, bLen, e, fitsCh]
  | _ => simp [F_fits_change, isTy, fitsCh, e]
def endsL : List D → Bool
  | [l, h] => endsD l h
  | _ => false
def walkD : D → Bool
  | .tuple (.str w :: r) => if w == "first" || w == "place" then r.isEmpty else if w == "up" || w == "down" then endsL r else false
  | _ => false
theorem eqvS (x y : Str) : PyData.eqv (.str x) (.str y) = (x == y) := rfl
theorem in_fp (w : Str) : dIn (.str w) (.tuple [.str "first", .str "place"]) = some (.bool (("first" : Str) == w || ("place" : Str) == w)) := by
  simp [dIn, flatD, eqvS]
theorem notin_all (w : Str) : dNotIn (.str w) (.tuple [.str "up", .str "down", .str "first", .str "place"]) = some (.bool (!(("up" : Str) == w || (("down" : Str) == w || (("first" : Str) == w || ("place" : Str) == w))))) := by
  simp [dNotIn, dIn, flatD, eqvS]
theorem sh_nil : SeqAt.shaped (.tuple []) = true := rfl
theorem len_one (r : List D) : ((r.length : Int) + 1 == 1) = r.isEmpty := by
  cases r with
  | nil => rfl
  | cons a t =>
    rw [beq_eq_false_iff_ne.mpr]
    · rfl
    · rw [List.length_cons]; omega
theorem walk_spec (d : D) (hs : SeqAt.shaped d = true) (μ : Sto) : g_is_walk [.d d] μ = .ok (.d (.bool (walkD d))) μ := by
  rw [show g_is_walk = fnOf 1 1 F_is_walk from rfl, fnOf1]
  have e : ∀ b : Bool, fin μ.length (.rt (.d (.bool b)) μ) = .ok (.d (.bool b)) μ := fun b => x_fin _ _ _ rfl
  cases d with
  | tuple l =>
    have q := dEqD hs sh_nil
    match l, hs, q with
    | [], _, q => 
      have q2 : dEq (.tuple []) (.tuple []) = some (.bool true) := q
      simp [F_is_walk, isTy, q2, walkD, e]
    | a :: r, hs, q =>
      have q2 : dEq (.tuple (a :: r)) (.tuple []) = some (.bool false) := q
      have i0 : dIx (.tuple (a :: r)) (.int 0) = some a := ix4_0 a r
      cases a with
      | str w =>
        by_cases w1 : w = "first"
        · subst w1
          have n1 : dNotIn (.str "first") (.tuple [.str "up", .str "down", .str "first", .str "place"]) = some (.bool false) := by kernel_rfl
          have n2 : dIn (.str "first") (.tuple [.str "first", .str "place"]) = some (.bool true) := by kernel_rfl
          have n3 : walkD (.tuple (.str "first" :: r)) = r.isEmpty := rfl
          rw [n3]
          simp [F_is_walk, isTy, q2, i0, n1, n2, bLen, dEqI, len_one, e]
        · by_cases w2 : w = "place"
          · subst w2
            have n1 : dNotIn (.str "place") (.tuple [.str "up", .str "down", .str "first", .str "place"]) = some (.bool false) := by kernel_rfl
            have n2 : dIn (.str "place") (.tuple [.str "first", .str "place"]) = some (.bool true) := by kernel_rfl
            have n3 : walkD (.tuple (.str "place" :: r)) = r.isEmpty := rfl
            rw [n3]
            simp [F_is_walk, isTy, q2, i0, n1, n2, bLen, dEqI, len_one, e]
          · by_cases w34 : w = "up" ∨ w = "down"
            · have n1 : dNotIn (.str w) (.tuple [.str "up", .str "down", .str "first", .str "place"]) = some (.bool false) := by
                rcases w34 with rfl | rfl <;> kernel_rfl
              have n2 : dIn (.str w) (.tuple [.str "first", .str "place"]) = some (.bool false) := by
                rcases w34 with rfl | rfl <;> kernel_rfl
              have n3 : walkD (.tuple (.str w :: r)) = endsL r := by
                rcases w34 with rfl | rfl <;> rfl
              rw [n3]
              match r, hs, i0, q2 with
              | [], _, i0, q2 => simp [F_is_walk, isTy, q2, i0, n1, n2, endsL, bLen, dEqI, e]
              | [_], _, i0, q2 => simp [F_is_walk, isTy, q2, i0, n1, n2, endsL, bLen, dEqI, e]
              | [l, h], _, i0, q2 =>
                have i1 : dIx (.tuple [.str w, l, h]) (.int 1) = some l := rfl
                have i2 : dIx (.tuple [.str w, l, h]) (.int 2) = some h := rfl
                simp [F_is_walk, isTy, q2, i0, i1, i2, n1, n2, endsL, bLen, dEqI, e, ends_spec]
              | _ :: _ :: _ :: t, _, i0, q2 =>
                have hl : ((t.length : Int) + 1 + 1 + 1 + 1 == 3) = false := by rw [beq_eq_false_iff_ne]; omega
                simp [F_is_walk, isTy, q2, i0, n1, n2, endsL, bLen, dEqI, e, hl]
            · have n1 : dNotIn (.str w) (.tuple [.str "up", .str "down", .str "first", .str "place"]) = some (.bool true) := by
                rw [notin_all]
                simp only [not_or] at w34
                simp [beq_eq_false_iff_ne.mpr (Ne.symm w1), beq_eq_false_iff_ne.mpr (Ne.symm w2), beq_eq_false_iff_ne.mpr (Ne.symm w34.1), beq_eq_false_iff_ne.mpr (Ne.symm w34.2)]
              have n3 : walkD (.tuple (.str w :: r)) = false := by
                simp only [not_or] at w34
                simp [walkD, w1, w2, w34.1, w34.2]
              rw [n3]
              simp [F_is_walk, isTy, q2, i0, n1, e]
      | _ => simp [F_is_walk, isTy, q2, i0, walkD, e]
  | _ => simp [F_is_walk, isTy, walkD, e]
/-- one_way, of pieces -/
def isAdd : D → Bool
  | .tuple [_, _, .str w, _] => w == "add"
  | _ => false
def upD : D → Bool
  | .tuple [_, _, _, .int v] => decide (0 < v)
  | _ => false
def onewayL (l : List D) : Bool := !((l.filter isAdd).any upD) || !((l.filter isAdd).any fun d => !upD d)
theorem onewayB (l : List D) (h : ∀ d ∈ l, pieceD d = true) (hs : ∀ x ∈ l, SeqAt.shaped x = true) (μ : Sto) : g_one_way [.d (.tuple l)] μ = .ok (.d (.bool (onewayL l))) μ := by
  rw [show g_one_way = fnOf 1 3 F_one_way from rfl, fnOf1]
  have e : ∀ b : Bool, fin μ.length (.rt (.d (.bool b)) μ) = .ok (.d (.bool b)) μ := fun b => x_fin _ _ _ rfl
  have lc : ∀ ρ : Mi.Env, ρ.length = 3 → lcL (tName 2) (eOp dEq (eOp dIx (eVar 2) (eInt 2)) (eStr "add")) (eOp dGt (eOp dIx (eVar 2) (eInt 3)) (eInt 0)) ρ l [] μ = .ok (.d (.list ((l.filter isAdd).map fun d => .bool (upD d)))) μ := fun ρ hρ => by
    rw [lc_filter isAdd (fun d => .bool (upD d)) l [] fun d hd => ⟨ρ.set 2 (some (.d d)), rfl, ?_, fun _ => ?_⟩]
    · rfl
    · obtain ⟨a, b, w, c, rfl, _, _⟩ := piece_form (h d hd)
      have i2 : dIx (.tuple [a, b, .str w, c]) (.int 2) = some (.str w) := rfl
      have hw := shaped_tup (hs _ hd) (.str w) (by simp)
      simp [hρ, i2, dEqS hw sh_add, isAdd]
    · obtain ⟨a, b, w, c, rfl, _, hc, _⟩ := piece_form (h d hd)
      obtain ⟨v, rfl, _⟩ := whole_int hc
      have i3 : dIx (.tuple [a, b, .str w, .int v]) (.int 3) = some (.int v) := rfl
      simp [hρ, i3, upD]
  have fl : ((l.filter isAdd).map fun d => PyData.bool (upD d)).all flatD = true := by simp [flatD]
  have c1 : ((fun y => PyData.eqv y (.bool true)) ∘ fun d => PyData.bool (upD d)) = upD := funext fun d => by
    show (upD d == true) = upD d
    cases upD d <;> rfl
  have c2 : ((fun y => PyData.eqv y (.bool false)) ∘ fun d => PyData.bool (upD d)) = fun d => !upD d := funext fun d => by
    show (upD d == false) = !upD d
    cases upD d <;> rfl
  have n1 : dNotIn (.bool true) (.list ((l.filter isAdd).map fun d => .bool (upD d))) = some (.bool (!((l.filter isAdd).any upD))) := by
    have q : dIn (.bool true) (.list ((l.filter isAdd).map fun d => .bool (upD d))) = some (.bool ((l.filter isAdd).any upD)) := by
      rw [dIn, if_pos ⟨rfl, fl⟩, List.any_map, c1]
    rw [dNotIn, q]
  have n2 : dNotIn (.bool false) (.list ((l.filter isAdd).map fun d => .bool (upD d))) = some (.bool (!((l.filter isAdd).any fun d => !upD d))) := by
    have q : dIn (.bool false) (.list ((l.filter isAdd).map fun d => .bool (upD d))) = some (.bool ((l.filter isAdd).any fun d => !upD d)) := by
      rw [dIn, if_pos ⟨rfl, fl⟩, List.any_map, c2]
    rw [dNotIn, q]
  cases h1 : (l.filter isAdd).any upD <;> simp [F_one_way, items, lc, wipeE, n1, n2, e, h1, onewayL]
def isPlace : D → Bool
  | .tuple (.str w :: _) => w == "place"
  | _ => false
def fitsSt : D → Bool
  | .tuple [.tuple l, w] => fitsCh (.tuple l) && (walkD w && (!isPlace w || onewayL l))
  | _ => false
theorem sh_place : SeqAt.shaped (.str "place") = true := by kernel_rfl
theorem fits_statement_spec (d : D) (hs : SeqAt.shaped d = true) (μ : Sto) : g_fits_statement [.d d] μ = .ok (.d (.bool (fitsSt d))) μ := by
  rw [show g_fits_statement = fnOf 1 1 F_fits_statement from rfl, fnOf1]
  have e : ∀ b : Bool, fin μ.length (.rt (.d (.bool b)) μ) = .ok (.d (.bool b)) μ := fun b => x_fin _ _ _ rfl
  cases d with
  | tuple l =>
    match l, hs with
    | [], _ => simp [F_fits_statement, isTy, bLen, dNeI, fitsSt, e]
    | [_], _ => simp [F_fits_statement, isTy, bLen, dNeI, fitsSt, e]
    | a :: b :: c :: r, _ =>
      have hl : ((r.length : Int) + 1 + 1 + 1 == 2) = false := by rw [beq_eq_false_iff_ne]; omega
      simp [F_fits_statement, isTy, bLen, dNeI, fitsSt, e, hl]
    | [c, w], hs =>
      have i0 : dIx (.tuple [c, w]) (.int 0) = some c := rfl
      have i1 : dIx (.tuple [c, w]) (.int 1) = some w := rfl
      have hc := shaped_tup hs c (by simp)
      have hw := shaped_tup hs w (by simp)
      have f1 := fits_change_spec c hc μ
      have f2 := walk_spec w hw μ
      cases h1 : fitsCh c with
      | false =>
        rw [h1] at f1
        have z : fitsSt (.tuple [c, w]) = false := by cases c <;> simp [fitsSt, h1]
        rw [z]
        simp [F_fits_statement, isTy, bLen, dNeI, e, i0, f1]
      | true =>
        rw [h1] at f1
        obtain ⟨l, rfl, hl⟩ : ∃ l, c = .tuple l ∧ ∀ x ∈ l, pieceD x = true := by
          cases c <;> simp [fitsCh] at h1
          exact ⟨_, rfl, h1.2.1⟩
        cases h2 : walkD w with
        | false =>
          rw [h2] at f2
          simp [F_fits_statement, isTy, bLen, dNeI, e, i0, i1, f1, f2, fitsSt, h2]
        | true =>
          rw [h2] at f2
          obtain ⟨x, r, rfl⟩ : ∃ x r, w = .tuple (.str x :: r) := by
            unfold walkD at h2
            split at h2
            · exact ⟨_, _, rfl⟩
            · cases h2
          have hx := shaped_tup hw (.str x) (by simp)
          have j0 : dIx (.tuple (.str x :: r)) (.int 0) = some (.str x) := ix4_0 _ r
          have ow := onewayB l hl (shaped_tup hc) μ
          cases h3 : (x == ("place" : Str)) <;> simp [F_fits_statement, isTy, bLen, dNeI, e, i0, i1, f1, f2, fitsSt, h1, h2, j0, dNeS hx sh_place, h3, isPlace, ow]
  | _ => simp [F_fits_statement, isTy, fitsSt, e]
end Pure

set_option linter.all false
set_option Elab.async false
set_option maxRecDepth 100000
set_option maxHeartbeats 1000000
/-! The plain law: the statements that the law makes up. -/
namespace Pure
open PySem Mi Mir
inductive Wk where
  | first | place | way (up : Bool) (lo hi : Option Int)
def wayS (b : Bool) : Str := if b then "up" else "down"
def Wk.d : Wk → D
  | .first => .tuple [.str "first"]
  | .place => .tuple [.str "place"]
  | .way u lo hi => .tuple [.str (wayS u), oD lo, oD hi]
structure St where
  ps : List Pc
  wk : Wk
def St.d (s : St) : D := .tuple [.tuple (s.ps.map Pc.d), s.wk.d]
def OneWay (ps : List Pc) : Prop := (∀ p ∈ ps, p.set = false → 0 < p.by_) ∨ (∀ p ∈ ps, p.set = false → p.by_ ≤ 0)
def WkOk (ps : List Pc) : Wk → Prop
  | .first => True
  | .place => OneWay ps
  | .way _ lo hi => EndOk lo ∧ EndOk hi ∧ ∀ i j, lo = some i → hi = some j → i ≤ j
structure StOk (s : St) : Prop where
  ch : ChOk s.ps
  wk : WkOk s.ps s.wk
theorem endD_o {o : Option Int} (h : EndOk o) : endD (oD o) = true := by
  cases o with
  | none => rfl
  | some i =>
    obtain ⟨h1, h2⟩ := h i rfl
    simp [endD, isNonD, wholeD, h1, h2]
theorem endsD_o {a b : Option Int} (ha : EndOk a) (hb : EndOk b) (h : ∀ i j, a = some i → b = some j → i ≤ j) : endsD (oD a) (oD b) = true := by
  unfold endsD
  rw [endD_o ha, endD_o hb]
  cases a with
  | none => rfl
  | some i => cases b with
    | none => rfl
    | some j => simp [isNonD, leD, h i j rfl rfl]
theorem pieceD_ok {p : Pc} (h : PcOk p) : pieceD p.d = true := by
  unfold Pc.d pieceD
  dsimp only
  rw [endsD_o h.lo h.hi h.le]
  cases hs : p.set with
  | true => simp [wholeD, h.by1, h.by2, wd]
  | false => simp [wholeD, h.by1, h.by2, wd, nzD, h.add hs]
theorem apAll_ok : ∀ {ps : List Pc}, Apart ps → apAll (ps.map Pc.d) = true
  | [], _ => rfl
  | [_], _ => rfl
  | p :: q :: r, h => by
    obtain ⟨a, b, h1, h2, h3⟩ := h.1
    have e := apAll_ok h.2
    show (apD p.d q.d && apAll ((q :: r).map Pc.d)) = true
    rw [e]
    unfold Pc.d apD
    rw [h1, h2]
    simp [isNonD, ltD, h3]
theorem fitsCh_ok {ps : List Pc} (h : ChOk ps) : fitsCh (.tuple (ps.map Pc.d)) = true := by
  unfold fitsCh
  have h1 := h.one
  have h4 := h.four
  dsimp only
  rw [apAll_ok h.apart]
  have hp : (ps.map Pc.d).all pieceD = true := by
    rw [List.all_eq_true]
    intro x hx
    obtain ⟨p, hp, rfl⟩ := List.mem_map.mp hx
    exact pieceD_ok (h.all p hp)
  rw [hp]
  simp [h1, h4]
theorem isAdd_d (p : Pc) : isAdd p.d = !p.set := by
  unfold Pc.d isAdd wd
  cases p.set <;> rfl
theorem oneway_ok {ps : List Pc} (h : OneWay ps) : onewayL (ps.map Pc.d) = true := by
  unfold onewayL
  have fl : (ps.map Pc.d).filter isAdd = (ps.filter fun p => !p.set).map Pc.d := by
    rw [List.filter_map]
    congr 1
    exact List.filter_congr fun p _ => isAdd_d p
  rw [fl]
  rcases h with h | h
  · have : ((ps.filter fun p => !p.set).map Pc.d).any (fun d => !upD d) = false := by
      rw [List.any_eq_false]
      intro x hx
      obtain ⟨p, hp, rfl⟩ := List.mem_map.mp hx
      obtain ⟨hp1, hp2⟩ := List.mem_filter.mp hp
      have := h p hp1 (by simpa using hp2)
      simp [Pc.d, upD, this]
    rw [this]
    simp
  · have : ((ps.filter fun p => !p.set).map Pc.d).any upD = false := by
      rw [List.any_eq_false]
      intro x hx
      obtain ⟨p, hp, rfl⟩ := List.mem_map.mp hx
      obtain ⟨hp1, hp2⟩ := List.mem_filter.mp hp
      have := h p hp1 (by simpa using hp2)
      simp [Pc.d, upD]
      omega
    rw [this]
    simp
theorem walkD_ok {ps : List Pc} {w : Wk} (h : WkOk ps w) : walkD w.d = true := by
  cases w with
  | first => rfl
  | place => rfl
  | way u lo hi =>
    obtain ⟨h1, h2, h3⟩ := h
    cases u
    · show endsL [oD lo, oD hi] = true
      exact endsD_o h1 h2 h3
    · show endsL [oD lo, oD hi] = true
      exact endsD_o h1 h2 h3
theorem fitsSt_ok {s : St} (h : StOk s) : fitsSt s.d = true := by
  unfold St.d fitsSt
  dsimp only
  rw [fitsCh_ok h.ch, walkD_ok h.wk]
  obtain ⟨ps, w⟩ := s
  cases w with
  | first => rfl
  | place => simp [Wk.d, isPlace, oneway_ok h.wk]
  | way u lo hi => cases u <;> rfl
/-! shapes -/
theorem canAll_of {l : List D} (h : ∀ x ∈ l, x.canLay0 = true) : PyData.canLayAll0 l = true := by
  induction l with
  | nil => rfl
  | cons x r ih =>
    rw [PyData.canLayAll0, h x List.mem_cons_self, ih fun y hy => h y (List.mem_cons_of_mem _ hy)]
    rfl
theorem depthAll_of {l : List D} {n : Nat} (h : ∀ x ∈ l, x.depth ≤ n) : PyData.depthAll l ≤ n := by
  induction l with
  | nil => rw [PyData.depthAll]; exact Nat.zero_le _
  | cons x r ih =>
    rw [PyData.depthAll]
    exact Nat.max_le.mpr ⟨h x List.mem_cons_self, ih fun y hy => h y (List.mem_cons_of_mem _ hy)⟩
structure Sh (n : Nat) (d : D) : Prop where
  can : d.canLay0 = true
  dep : d.depth ≤ n
theorem Sh.shaped {n : Nat} {d : D} (h : Sh n d) (hn : n ≤ 64) : SeqAt.shaped d = true := shaped_iff.mpr ⟨h.can, Nat.le_trans h.dep hn⟩
theorem Sh.tup {n : Nat} {l : List D} (h : ∀ x ∈ l, Sh n x) : Sh (n + 1) (.tuple l) := by
  refine ⟨?_, ?_⟩
  · rw [PyData.canLay0]; exact canAll_of fun x hx => (h x hx).can
  · rw [PyData.depth]; have := depthAll_of fun x hx => (h x hx).dep; omega
theorem Sh.lst {n : Nat} {l : List D} (h : ∀ x ∈ l, Sh n x) : Sh (n + 1) (.list l) := by
  refine ⟨?_, ?_⟩
  · rw [PyData.canLay0]; exact canAll_of fun x hx => (h x hx).can
  · rw [PyData.depth]; have := depthAll_of fun x hx => (h x hx).dep; omega
theorem Sh.mono {m n : Nat} {d : D} (h : Sh m d) (hn : m ≤ n) : Sh n d := ⟨h.can, Nat.le_trans h.dep hn⟩
theorem sh_int (i : Int) : Sh 0 (.int i) := ⟨rfl, Nat.le_refl _⟩
theorem sh_none : Sh 0 .none := ⟨rfl, Nat.le_refl _⟩
theorem sh_o (o : Option Int) : Sh 0 (oD o) := by
  cases o with
  | none => exact sh_none
  | some i => exact sh_int i
theorem sh_str {x : Str} (h : SeqAt.shaped (.str x) = true) : Sh 0 (.str x) := ⟨(shaped_iff.mp h).1, Nat.le_refl _⟩
theorem sh_wd (b : Bool) : Sh 0 (.str (wd b)) := by
  cases b
  · exact sh_str sh_add
  · exact sh_str sh_set
theorem sh_up : SeqAt.shaped (.str "up") = true := by kernel_rfl
theorem sh_down : SeqAt.shaped (.str "down") = true := by kernel_rfl
theorem sh_first : SeqAt.shaped (.str "first") = true := by kernel_rfl
theorem mem4 {P : D → Prop} {a b c d : D} (ha : P a) (hb : P b) (hc : P c) (hd : P d) : ∀ x ∈ [a, b, c, d], P x := by
  intro x hx
  simp at hx
  rcases hx with rfl | rfl | rfl | rfl <;> assumption
theorem mem3' {P : D → Prop} {a b c : D} (ha : P a) (hb : P b) (hc : P c) : ∀ x ∈ [a, b, c], P x := by
  intro x hx
  simp at hx
  rcases hx with rfl | rfl | rfl <;> assumption
theorem mem2' {P : D → Prop} {a b : D} (ha : P a) (hb : P b) : ∀ x ∈ [a, b], P x := by
  intro x hx
  simp at hx
  rcases hx with rfl | rfl <;> assumption
theorem mem1' {P : D → Prop} {a : D} (ha : P a) : ∀ x ∈ [a], P x := by
  intro x hx
  simp at hx
  rw [hx]
  exact ha
theorem sh_pc (p : Pc) : Sh 1 p.d := Sh.tup (mem4 (sh_o _) (sh_o _) (sh_wd _) (sh_int _))
theorem sh_ps (ps : List Pc) : Sh 2 (.tuple (ps.map Pc.d)) := Sh.tup fun x hx => by
  obtain ⟨p, _, rfl⟩ := List.mem_map.mp hx
  exact sh_pc p
theorem sh_wk (w : Wk) : Sh 1 w.d := by
  cases w with
  | first => exact Sh.tup (mem1' (sh_str sh_first))
  | place => exact Sh.tup (mem1' (sh_str sh_place))
  | way u lo hi =>
    refine Sh.tup (mem3' ?_ (sh_o _) (sh_o _))
    cases u
    · exact sh_str sh_down
    · exact sh_str sh_up
theorem sh_st (s : St) : Sh 3 s.d := Sh.tup (mem2' (sh_ps _) ((sh_wk _).mono (by decide)))
/-! the making of statements -/
theorem ix2d (p : Pc) : dIx p.d (.int 2) = some (.str (wd p.set)) := rfl
theorem ix3d (p : Pc) : dIx p.d (.int 3) = some (.int p.by_) := rfl
theorem cut3d (p : Pc) : dCut p.d none (some 3) = some (.tuple [oD p.lo, oD p.hi, .str (wd p.set)]) := rfl
theorem eq_add (b : Bool) : dEq (.str (wd b)) (.str "add") = some (.bool (!b)) := by
  cases b
  · kernel_rfl
  · kernel_rfl
theorem add_by (p : Pc) (v : Int) : dAdd (.tuple [oD p.lo, oD p.hi, .str (wd p.set)]) (.tuple [.int v]) = some (Pc.d { p with by_ := v }) := rfl
def absI (a : Int) : Int := if a < 0 then -a else a
def Pc.absd (p : Pc) : Pc := { p with by_ := if p.set then p.by_ else absI p.by_ }
def Pc.negd (p : Pc) : Pc := { p with by_ := if p.set then p.by_ else -p.by_ }
theorem absd_ok {p : Pc} (h : PcOk p) : PcOk p.absd := by
  refine ⟨h.lo, h.hi, h.le, ?_, ?_, ?_⟩
  · show -far ≤ (if p.set then p.by_ else absI p.by_)
    have := h.by1; have := h.by2; have := far_big
    unfold absI
    split
    · exact h.by1
    · split <;> omega
  · show (if p.set then p.by_ else absI p.by_) ≤ far
    have := h.by1; have := h.by2; have := far_big
    unfold absI
    split
    · exact h.by2
    · split <;> omega
  · intro hs
    have hs : p.set = false := hs
    have := h.add hs
    show (if p.set then p.by_ else absI p.by_) ≠ 0
    rw [hs]
    unfold absI
    simp only [Bool.false_eq_true, if_false]
    split <;> omega
theorem negd_ok {p : Pc} (h : PcOk p) : PcOk p.negd := by
  refine ⟨h.lo, h.hi, h.le, ?_, ?_, ?_⟩
  · show -far ≤ (if p.set then p.by_ else -p.by_)
    have := h.by1; have := h.by2
    split <;> omega
  · show (if p.set then p.by_ else -p.by_) ≤ far
    have := h.by1; have := h.by2
    split <;> omega
  · intro hs
    have hs : p.set = false := hs
    have := h.add hs
    show (if p.set then p.by_ else -p.by_) ≠ 0
    rw [hs]
    simp only [Bool.false_eq_true, if_false]
    omega
theorem apart_map {f : Pc → Pc} (h1 : ∀ p, (f p).lo = p.lo) (h2 : ∀ p, (f p).hi = p.hi) : ∀ ps : List Pc, Apart ps → Apart (ps.map f)
  | [], _ => True.intro
  | [_], _ => True.intro
  | p :: q :: r, h => by
    obtain ⟨a, b, e1, e2, e3⟩ := h.1
    exact ⟨⟨a, b, by rw [h2]; exact e1, by rw [h1]; exact e2, e3⟩, apart_map h1 h2 (q :: r) h.2⟩
theorem ch_map {f : Pc → Pc} (h1 : ∀ p, (f p).lo = p.lo) (h2 : ∀ p, (f p).hi = p.hi) (h3 : ∀ p, PcOk p → PcOk (f p)) {ps : List Pc} (h : ChOk ps) : ChOk (ps.map f) :=
  ⟨by rw [List.length_map]; exact h.one, by rw [List.length_map]; exact h.four, fun p hp => by
    obtain ⟨q, hq, rfl⟩ := List.mem_map.mp hp
    exact h3 q (h.all q hq), apart_map h1 h2 ps h.apart⟩
theorem one_way_spec (ps : List Pc) (μ : Sto) : g__law_one_way [.d (.tuple (ps.map Pc.d))] μ = .ok (.d (.tuple ((ps.map Pc.absd).map Pc.d))) μ := by
  rw [show g__law_one_way = fnOf 1 2 F__law_one_way from rfl, fnOf1]
  have e : ∀ b : D, fin μ.length (.rt (.d b) μ) = .ok (.d b) μ := fun b => x_fin _ _ _ rfl
  have lc : ∀ ρ : Mi.Env, ρ.length = 2 → lcL (tName 1) eYes (eOp dAdd (eSl dCut (eVar 1) none (some (eInt 3))) (eTup (aCons (eIf (eOp dEq (eOp dIx (eVar 1) (eInt 2)) (eStr "add")) (eBlt bAbs (aCons (eOp dIx (eVar 1) (eInt 3)) aNil)) (eOp dIx (eVar 1) (eInt 3))) aNil))) ρ (ps.map Pc.d) [] μ = .ok (.d (.list (ps.map fun p => p.absd.d))) μ := fun ρ hρ => by
    rw [lc_mapT Pc.d (fun p => p.absd.d) ps [] fun p hp => ⟨ρ.set 1 (some (.d p.d)), rfl, rfl, ?_⟩]
    · rfl
    · obtain ⟨lo, hi, s, b⟩ := p
      have c3 := cut3d ⟨lo, hi, s, b⟩
      have c2 := ix2d ⟨lo, hi, s, b⟩
      have ab := fun v => add_by ⟨lo, hi, s, b⟩ v
      have i3 := ix3d ⟨lo, hi, s, b⟩
      cases s with
      | false =>
        simp [hρ, c3, c2, i3, eq_add, bAbs]
        rw [show (if b < 0 then -b else b) = absI b from rfl]
        rw [show dAdd (.tuple [oD lo, oD hi, .str (wd false)]) (.tuple [.int (absI b)]) = some (Pc.d ⟨lo, hi, false, absI b⟩) from rfl]
        rfl
      | true =>
        simp [hρ, c3, c2, i3, eq_add, bAbs]
        rw [show dAdd (.tuple [oD lo, oD hi, .str (wd true)]) (.tuple [.int b]) = some (Pc.d ⟨lo, hi, true, b⟩) from rfl]
        rfl
  simp [F__law_one_way, items, lc, wipeE, bTup, e]
theorem neg_lc (ps : List Pc) (μ : Sto) (ρ : Mi.Env) (hρ : ρ.length = 7) : lcL (tName 6) eYes (eOp dAdd (eSl dCut (eVar 6) none (some (eInt 3))) (eTup (aCons (eIf (eOp dEq (eOp dIx (eVar 6) (eInt 2)) (eStr "add")) (eUn dNeg (eOp dIx (eVar 6) (eInt 3))) (eOp dIx (eVar 6) (eInt 3))) aNil))) ρ (ps.map Pc.d) [] μ = .ok (.d (.list (ps.map fun p => p.negd.d))) μ := by
  rw [lc_mapT Pc.d (fun p => p.negd.d) ps [] fun p hp => ⟨ρ.set 6 (some (.d p.d)), rfl, rfl, ?_⟩]
  · rfl
  · obtain ⟨lo, hi, s, b⟩ := p
    have c3 := cut3d ⟨lo, hi, s, b⟩
    have c2 := ix2d ⟨lo, hi, s, b⟩
    have i3 := ix3d ⟨lo, hi, s, b⟩
    cases s with
    | false =>
      simp [hρ, c3, c2, i3, eq_add]
      rw [show dAdd (.tuple [oD lo, oD hi, .str (wd false)]) (.tuple [.int (-b)]) = some (Pc.d ⟨lo, hi, false, -b⟩) from rfl]
      rfl
    | true =>
      simp [hρ, c3, c2, i3, eq_add]
      rw [show dAdd (.tuple [oD lo, oD hi, .str (wd true)]) (.tuple [.int b]) = some (Pc.d ⟨lo, hi, true, b⟩) from rfl]
      rfl
theorem oneway_abs {ps : List Pc} (h : ∀ p ∈ ps, PcOk p) : OneWay (ps.map Pc.absd) := .inl fun p hp hs => by
  obtain ⟨q, hq, rfl⟩ := List.mem_map.mp hp
  have hs : q.set = false := hs
  have := (h q hq).add hs
  show 0 < (if q.set then q.by_ else absI q.by_)
  rw [hs]
  unfold absI
  simp only [Bool.false_eq_true, if_false]
  split <;> omega
theorem oneway_neg {ps : List Pc} (h : ∀ p ∈ ps, PcOk p) : OneWay ((ps.map Pc.absd).map Pc.negd) := .inr fun p hp hs => by
  obtain ⟨q, hq, rfl⟩ := List.mem_map.mp hp
  obtain ⟨q', hq', rfl⟩ := List.mem_map.mp hq
  have hs : q'.set = false := hs
  show (if q'.absd.set then q'.absd.by_ else -q'.absd.by_) ≤ 0
  have e : q'.absd.set = false := hs
  rw [e]
  show -(if q'.set then q'.by_ else absI q'.by_) ≤ 0
  rw [hs]
  unfold absI
  simp only [Bool.false_eq_true, if_false]
  split <;> omega
theorem eq_word (x y : Str) (b : Bool) (hx : SeqAt.shaped (.str x) = true) (hy : SeqAt.shaped (.str y) = true) (h : (x == y) = b) : dEq (.str x) (.str y) = some (.bool b) := by rw [dEqS hx hy, h]
theorem mem_lo {a b : Int} : bSorted [.list [.int a, .int b]] = some (.list [.int (if a ≤ b then a else b), .int (if a ≤ b then b else a)]) := by
  unfold bSorted
  simp only [intsOf, Option.map_some, isort, insI]
  split <;> rfl
theorem gt_if (q : Int) (x : Option Int) : (if (0 : Int) < q then W.d .none else W.d (oD x)) = W.d (oD (if 0 < q then none else x)) := by split <;> rfl
theorem absd_sm {m : Int} {p : Pc} (h : PcSm m p) : PcSm m p.absd := ⟨h.lo, h.hi, fun hs => by
    have hs : p.set = false := hs
    have := h.add hs
    show -m ≤ (if p.set then p.by_ else absI p.by_) ∧ (if p.set then p.by_ else absI p.by_) ≤ m
    rw [hs]
    unfold absI
    simp only [Bool.false_eq_true, if_false]
    split <;> omega, fun hs => by
    have hs : p.set = true := hs
    have := h.set hs
    show -22 ≤ (if p.set then p.by_ else absI p.by_) ∧ (if p.set then p.by_ else absI p.by_) ≤ 41
    rw [hs]
    exact this⟩
theorem negd_sm {m : Int} {p : Pc} (h : PcSm m p) : PcSm m p.negd := ⟨h.lo, h.hi, fun hs => by
    have hs : p.set = false := hs
    have := h.add hs
    show -m ≤ (if p.set then p.by_ else -p.by_) ∧ (if p.set then p.by_ else -p.by_) ≤ m
    rw [hs]
    simp only [Bool.false_eq_true, if_false]
    omega, fun hs => by
    have hs : p.set = true := hs
    have := h.set hs
    show -22 ≤ (if p.set then p.by_ else -p.by_) ∧ (if p.set then p.by_ else -p.by_) ≤ 41
    rw [hs]
    exact this⟩
/-- the law's statements are small -/
structure StSm (m : Int) (s : St) : Prop where
  ps : ∀ p ∈ s.ps, PcSm m p
  lo : ∀ u lo hi, s.wk = .way u lo hi → (∀ i, lo = some i → -22 ≤ i ∧ i ≤ 37) ∧ ∀ i, hi = some i → -22 ≤ i ∧ i ≤ 37
theorem sm_map {m : Int} {f : Pc → Pc} (h : ∀ p, PcSm m p → PcSm m (f p)) {ps : List Pc} (hp : ∀ p ∈ ps, PcSm m p) : ∀ p ∈ ps.map f, PcSm m p := fun p hp' => by
  obtain ⟨q, hq, rfl⟩ := List.mem_map.mp hp'
  exact h q (hp q hq)
theorem way_case {μ : Sto} {k : Nat} {most : Int} {ps : List Pc} {μ2 : Sto} (u : Bool) (hk : k < μ.length) (hc : ChOk ps) (hsm : ∀ p ∈ ps, PcSm most p) (h2 : DrumAt μ2 k) (l2 : μ2.length = μ.length) (r2 : Rolled k μ μ2) (μ1 : Sto)
    (e1 : g__law_change [.m k, .d (.int most)] μ = .ok (.d (.tuple (ps.map Pc.d))) μ1)
    (e2 : g__law_some [.m k, .d (.list [.str "up", .str "up", .str "down", .str "down", .str "place", .str "first"])] μ1 = .ok (.d (.str (wayS u))) μ2) :
    ∃ s μ', StOk s ∧ StSm most s ∧ Rolled k μ μ' ∧ fin μ.length (F__law_statement (some (.m k) :: some (.d (.int most)) :: List.replicate (7 - 2) none) μ) = .ok (.d s.d) μ' := by
  have k2 := h2.lt
  have f : ∀ (d : D) (ν : Sto), ν.length = μ.length → fin μ.length (.rt (.d d) ν) = .ok (.d d) ν := fun d ν hν => x_fin _ _ _ hν
  have n1 : dEq (.str (wayS u)) (.str "first") = some (.bool false) := by cases u <;> kernel_rfl
  have n2 : dEq (.str (wayS u)) (.str "place") = some (.bool false) := by cases u <;> kernel_rfl
  obtain ⟨a, μ3, al, ah, r3, e3⟩ := roll_spec (many := 60) h2 (by decide) (by decide +kernel)
  have h3 := r3.at_ k2
  obtain ⟨b, μ4, bl, bh, r4, e4⟩ := roll_spec (many := 60) h3 (by decide) (by decide +kernel)
  have h4 := r4.at_ h3.lt
  obtain ⟨c, μ5, cl, ch, r5, e5⟩ := roll_spec (many := 3) h4 (by decide) (by decide +kernel)
  have h5 := r5.at_ h4.lt
  obtain ⟨g, μ6, gl, gh, r6, e6⟩ := roll_spec (many := 3) h5 (by decide) (by decide +kernel)
  have l6 : μ6.length = μ.length := by rw [r6.len, r5.len, r4.len, r3.len, l2]
  have hf := far_big
  generalize hlo : (if a ≤ b then -22 + a else -22 + b) = lo
  generalize hhi : (if a ≤ b then -22 + b else -22 + a) = hi
  have b1 : -far ≤ lo ∧ lo ≤ far ∧ -far ≤ hi ∧ hi ≤ far ∧ lo ≤ hi := by
    split at hlo <;> split at hhi <;> omega
  have b2 : -22 ≤ lo ∧ lo ≤ 37 ∧ -22 ≤ hi ∧ hi ≤ 37 := by
    split at hlo <;> split at hhi <;> omega
  refine ⟨⟨ps, .way u (if 0 < c then none else some lo) (if 0 < g then none else some hi)⟩, μ6, ⟨hc, ?_, ?_, ?_⟩, ⟨hsm, fun u' lo' hi' e => ?_⟩, (((r2.trans r3).trans r4).trans r5).trans r6, ?_⟩
  · intro i hi'
    split at hi'
    · cases hi'
    · cases hi'; exact ⟨b1.1, b1.2.1⟩
  · intro i hi'
    split at hi'
    · cases hi'
    · cases hi'; exact ⟨b1.2.2.1, b1.2.2.2.1⟩
  · intro i j h1 h2
    split at h1
    · cases h1
    · split at h2
      · cases h2
      · cases h1; cases h2; exact b1.2.2.2.2
  · cases e
    refine ⟨fun i h => ?_, fun i h => ?_⟩
    · split at h
      · cases h
      · cases h; exact ⟨b2.1, b2.2.1⟩
    · split at h
      · cases h
      · cases h; exact ⟨b2.2.2.1, b2.2.2.2⟩
  · by_cases hc0 : 0 < c <;> by_cases hg0 : 0 < g <;> (simp [F__law_statement, e1, e2, n1, n2, e3, e4, e5, e6, mem_lo, hlo, hhi, hc0, hg0, f _ _ l6]; rfl)
theorem place_case {μ : Sto} {k : Nat} {most : Int} {ps : List Pc} {μ2 : Sto} (hk : k < μ.length) (hc : ChOk ps) (hsm : ∀ p ∈ ps, PcSm most p) (h2 : DrumAt μ2 k) (l2 : μ2.length = μ.length) (r2 : Rolled k μ μ2) (μ1 : Sto)
    (e1 : g__law_change [.m k, .d (.int most)] μ = .ok (.d (.tuple (ps.map Pc.d))) μ1)
    (e2 : g__law_some [.m k, .d (.list [.str "up", .str "up", .str "down", .str "down", .str "place", .str "first"])] μ1 = .ok (.d (.str "place")) μ2) :
    ∃ s μ', StOk s ∧ StSm most s ∧ Rolled k μ μ' ∧ fin μ.length (F__law_statement (some (.m k) :: some (.d (.int most)) :: List.replicate (7 - 2) none) μ) = .ok (.d s.d) μ' := by
  have k2 := h2.lt
  have f : ∀ (d : D) (ν : Sto), ν.length = μ.length → fin μ.length (.rt (.d d) ν) = .ok (.d d) ν := fun d ν hν => x_fin _ _ _ hν
  have n1 : dEq (.str "place") (.str "first") = some (.bool false) := by kernel_rfl
  have n2 : dEq (.str "place") (.str "place") = some (.bool true) := by kernel_rfl
  obtain ⟨a, μ3, al, ah, r3, e3⟩ := roll_spec (many := 3) h2 (by decide) (by decide +kernel)
  have l3 : μ3.length = μ.length := by rw [r3.len, l2]
  have hc1 : ChOk (ps.map Pc.absd) := ch_map (f := Pc.absd) (fun _ => rfl) (fun _ => rfl) (fun _ => absd_ok) hc
  by_cases ha : a = 0
  · refine ⟨⟨(ps.map Pc.absd).map Pc.negd, .place⟩, μ3, ⟨ch_map (f := Pc.negd) (fun _ => rfl) (fun _ => rfl) (fun _ => negd_ok) hc1, oneway_neg hc.all⟩, ⟨sm_map (f := Pc.negd) (fun _ => negd_sm) (sm_map (f := Pc.absd) (fun _ => absd_sm) hsm), fun u lo hi e => (by cases e)⟩, r2.trans r3, ?_⟩
    subst ha
    have o := one_way_spec ps μ2
    have z : dEq (.int 0) (.int 0) = some (.bool true) := rfl
    have lc := fun ρ hρ => neg_lc (ps.map Pc.absd) μ3 ρ hρ
    simp [F__law_statement, e1, e2, n1, n2, e3, z]
    rw [show ps.map Pc.d = ps.map Pc.d from rfl] at o
    simp at o lc
    simp [o, items, lc, wipeE, bTup, f _ _ l3, e3, z]
    simp [St.d, Wk.d]
  · refine ⟨⟨ps.map Pc.absd, .place⟩, μ3, ⟨hc1, oneway_abs hc.all⟩, ⟨sm_map (f := Pc.absd) (fun _ => absd_sm) hsm, fun u lo hi e => (by cases e)⟩, r2.trans r3, ?_⟩
    have o := one_way_spec ps μ2
    have z : dEq (.int a) (.int 0) = some (.bool false) := by rw [dEqI0, beq_eq_false_iff_ne.mpr ha]
    simp at o
    simp [F__law_statement, e1, e2, n1, n2, e3, z, o, f _ _ l3]
    simp [St.d, Wk.d]
theorem statement_sm {μ : Sto} {k : Nat} {most : Int} (h : DrumAt μ k) (hm : 0 < most) (hm2 : most ≤ 1000) :
    ∃ s μ', StOk s ∧ StSm most s ∧ Rolled k μ μ' ∧ g__law_statement [.m k, .d (.int most)] μ = .ok (.d s.d) μ' := by
  have hk := h.lt
  obtain ⟨ps, μ1, hc, hsm, hl, r1, e1⟩ := change_spec h hm hm2
  have h1 := r1.at_ hk
  have k1 := h1.lt
  obtain ⟨d, μ2, hd, r2, e2⟩ := some_spec (l := [.str "up", .str "up", .str "down", .str "down", .str "place", .str "first"]) h1 (by simp) (by simp)
  have h2 := r2.at_ k1
  have k2 := h2.lt
  have f : ∀ (d : D) (ν : Sto), ν.length = μ.length → fin μ.length (.rt (.d d) ν) = .ok (.d d) ν := fun d ν hν => x_fin _ _ _ hν
  have l2 : μ2.length = μ.length := by rw [r2.len, r1.len]
  rw [show g__law_statement = fnOf 2 7 F__law_statement from rfl, fnOf2]
  simp at hd
  rcases hd with rfl | rfl | rfl | rfl
  · exact way_case true hk hc hsm h2 l2 (r1.trans r2) μ1 e1 e2
  · exact way_case false hk hc hsm h2 l2 (r1.trans r2) μ1 e1 e2
  · exact place_case hk hc hsm h2 l2 (r1.trans r2) μ1 e1 e2
  · refine ⟨⟨ps, .first⟩, μ2, ⟨hc, True.intro⟩, ⟨hsm, fun u lo hi e => (by cases e)⟩, r1.trans r2, ?_⟩
    simp [F__law_statement, e1, e2, eq_word "first" "first" true sh_first sh_first (by kernel_rfl), f _ _ l2]
    rfl
theorem statement_spec {μ : Sto} {k : Nat} {most : Int} (h : DrumAt μ k) (hm : 0 < most) (hm2 : most ≤ 1000) :
    ∃ s μ', StOk s ∧ Rolled k μ μ' ∧ g__law_statement [.m k, .d (.int most)] μ = .ok (.d s.d) μ' := by
  obtain ⟨s, μ', a, _, b, c⟩ := statement_sm h hm hm2
  exact ⟨s, μ', a, b, c⟩
end Pure

set_option linter.all false
set_option Elab.async false
set_option maxRecDepth 100000
set_option maxHeartbeats 1000000
/-! The plain law: pieces that hold a worth, and what they make of it. -/
namespace Pure
open PySem Mi Mir
def leO : Option Int → Int → Bool
  | none, _ => true
  | some a, w => decide (a ≤ w)
def geO : Option Int → Int → Bool
  | none, _ => true
  | some a, w => decide (w ≤ a)
def hasB (lo hi : Option Int) (w : Int) : Bool := leO lo w && geO hi w
theorem ixc0 (a : D) (r : List D) : dIx (.tuple (a :: r)) (.int 0) = some a := ix4_0 a r
theorem ixc1 (a b : D) (r : List D) : dIx (.tuple (a :: b :: r)) (.int 1) = some b := by
  have : (1 : Int) < (r.length : Int) + 1 + 1 := by omega
  simp [dIx, ixI, this]
theorem ixc2 (a b c : D) (r : List D) : dIx (.tuple (a :: b :: c :: r)) (.int 2) = some c := by
  have : (2 : Int) < (r.length : Int) + 1 + 1 + 1 := by omega
  simp [dIx, ixI, this]
theorem has_spec (lo hi : Option Int) (r : List D) (w : Int) (μ : Sto) : g_has [.d (.tuple (oD lo :: oD hi :: r)), .d (.int w)] μ = .ok (.d (.bool (hasB lo hi w))) μ := by
  have f : ∀ b : D, fin μ.length (.rt (.d b) μ) = .ok (.d b) μ := fun b => x_fin _ _ _ rfl
  rw [show g_has = fnOf 2 2 F_has from rfl, fnOf2]
  cases lo with
  | none => cases hi with
    | none => simp [F_has, ixc0, ixc1, hasB, leO, geO, f]
    | some h => simp [F_has, ixc0, ixc1, hasB, leO, geO, f]
  | some l =>
    by_cases h1 : l ≤ w
    · cases hi with
      | none => simp [F_has, ixc0, ixc1, hasB, leO, geO, f, h1]
      | some h => simp [F_has, ixc0, ixc1, hasB, leO, geO, f, h1]
    · cases hi <;> simp [F_has, ixc0, ixc1, hasB, leO, geO, f, h1]
def pieceOf (ps : List Pc) (w : Int) : Option Pc := ps.find? fun p => hasB p.lo p.hi w
def pD : Option Pc → D
  | none => .none
  | some p => p.d
theorem has_pc (p : Pc) (w : Int) (μ : Sto) : g_has [.d p.d, .d (.int w)] μ = .ok (.d (.bool (hasB p.lo p.hi w))) μ := has_spec p.lo p.hi _ w μ
theorem piece_loop (x0 : Option W) (w : Int) (μ : Sto) : ∀ (ps : List Pc) (x2 : Option W), ∃ x2', forL (tName 2) (sIf (eCall g_has (aCons (eVar 2) (aCons (eVar 1) aNil))) (sRet (eVar 2)) sNil) (ps.map Pc.d) [x0, some (.d (.int w)), x2] μ =
    match pieceOf ps w with | some p => .rt (.d p.d) μ | none => .nx [x0, some (.d (.int w)), x2'] μ
  | [], x2 => ⟨x2, rfl⟩
  | p :: ps, x2 => by
    obtain ⟨x2', ih⟩ := piece_loop x0 w μ ps (some (.d p.d))
    have hp := has_pc p w μ
    cases h : hasB p.lo p.hi w with
    | true => exact ⟨none, by rw [h] at hp; simp [forL, hp, pieceOf, h]⟩
    | false =>
      refine ⟨x2', ?_⟩
      rw [h] at hp
      rw [show pieceOf (p :: ps) w = pieceOf ps w by simp [pieceOf, h], ← ih]
      simp [forL, hp]
theorem piece_of_spec (ps : List Pc) (w : Int) (μ : Sto) : g_piece_of [.d (.tuple (ps.map Pc.d)), .d (.int w)] μ = .ok (.d (pD (pieceOf ps w))) μ := by
  have f : ∀ b : D, fin μ.length (.rt (.d b) μ) = .ok (.d b) μ := fun b => x_fin _ _ _ rfl
  obtain ⟨x2, e⟩ := piece_loop (some (.d (.tuple (ps.map Pc.d)))) w μ ps none
  rw [show g_piece_of = fnOf 2 3 F_piece_of from rfl, fnOf2]
  unfold F_piece_of
  rw [x_sSeq, x_sFor, x_iSeq]
  simp only [x_eVar, List.getElem?_cons_zero, R.bind_ok, items, ofO_some, R.bindS_ok, List.replicate, Nat.reduceSub]
  rw [e]
  cases pieceOf ps w with
  | none => simp [pD, f]
  | some p => simp [pD, f]
def made (o : Option Pc) (w : Int) : Int := match o with
  | none => w
  | some p => if p.set then p.by_ else w + p.by_
def changedI (ps : List Pc) (w : Int) : Int := made (pieceOf ps w) w
theorem made_spec (o : Option Pc) (w : Int) (μ : Sto) : g_made [.d (pD o), .d (.int w)] μ = .ok (.d (.int (made o w))) μ := by
  have f : ∀ b : D, fin μ.length (.rt (.d b) μ) = .ok (.d b) μ := fun b => x_fin _ _ _ rfl
  rw [show g_made = fnOf 2 2 F_made from rfl, fnOf2]
  cases o with
  | none => simp [F_made, pD, made, f]
  | some p =>
    have nn : isNonW (.d p.d) = false := rfl
    have i2 := ix2d p
    have i3 := ix3d p
    have q := eq_add p.set
    cases hs : p.set with
    | true => rw [hs] at i2 q; simp [F_made, pD, nn, i2, q, i3, made, hs, f]
    | false => rw [hs] at i2 q; simp [F_made, pD, nn, i2, q, i3, made, hs, f]
/-! the law's own -/
theorem lhas_spec (lo hi : Option Int) (w : Int) (μ : Sto) : g__law_has [.d (oD lo), .d (oD hi), .d (.int w)] μ = .ok (.d (.bool (hasB lo hi w))) μ := by
  have f : ∀ b : D, fin μ.length (.rt (.d b) μ) = .ok (.d b) μ := fun b => x_fin _ _ _ rfl
  rw [show g__law_has = fnOf 3 3 F__law_has from rfl, fnOf3]
  cases lo with
  | none => cases hi with
    | none => simp [F__law_has, hasB, leO, geO, f]
    | some h => simp [F__law_has, hasB, leO, geO, f]
  | some l =>
    by_cases h1 : l ≤ w
    · cases hi with
      | none => simp [F__law_has, hasB, leO, geO, f, h1]
      | some h => simp [F__law_has, hasB, leO, geO, f, h1]
    · cases hi <;> simp [F__law_has, hasB, leO, geO, f, h1]
theorem lpiece_loop (x0 : Option W) (w : Int) (μ : Sto) : ∀ (ps : List Pc) (x2 : Option W), ∃ x2', forL (tName 2) (sIf (eCall g__law_has (aCons (eOp dIx (eVar 2) (eInt 0)) (aCons (eOp dIx (eVar 2) (eInt 1)) (aCons (eVar 1) aNil)))) (sRet (eVar 2)) sNil) (ps.map Pc.d) [x0, some (.d (.int w)), x2] μ =
    match pieceOf ps w with | some p => .rt (.d p.d) μ | none => .nx [x0, some (.d (.int w)), x2'] μ
  | [], x2 => ⟨x2, rfl⟩
  | p :: ps, x2 => by
    obtain ⟨x2', ih⟩ := lpiece_loop x0 w μ ps (some (.d p.d))
    have hp := lhas_spec p.lo p.hi w μ
    have i0 : dIx p.d (.int 0) = some (oD p.lo) := rfl
    have i1 : dIx p.d (.int 1) = some (oD p.hi) := rfl
    cases h : hasB p.lo p.hi w with
    | true => exact ⟨none, by rw [h] at hp; simp [forL, i0, i1, hp, pieceOf, h]⟩
    | false =>
      refine ⟨x2', ?_⟩
      rw [h] at hp
      rw [show pieceOf (p :: ps) w = pieceOf ps w by simp [pieceOf, h], ← ih]
      simp [forL, i0, i1, hp]
theorem lpiece_of_spec (ps : List Pc) (w : Int) (μ : Sto) : g__law_piece [.d (.tuple (ps.map Pc.d)), .d (.int w)] μ = .ok (.d (pD (pieceOf ps w))) μ := by
  have f : ∀ b : D, fin μ.length (.rt (.d b) μ) = .ok (.d b) μ := fun b => x_fin _ _ _ rfl
  obtain ⟨x2, e⟩ := lpiece_loop (some (.d (.tuple (ps.map Pc.d)))) w μ ps none
  rw [show g__law_piece = fnOf 2 3 F__law_piece from rfl, fnOf2]
  unfold F__law_piece
  rw [x_sSeq, x_sFor, x_iSeq]
  simp only [x_eVar, List.getElem?_cons_zero, R.bind_ok, items, ofO_some, R.bindS_ok, List.replicate, Nat.reduceSub]
  rw [e]
  cases pieceOf ps w with
  | none => simp [pD, f]
  | some p => simp [pD, f]
theorem lchanged_spec (ps : List Pc) (w : Int) (μ : Sto) : g__law_changed [.d (.tuple (ps.map Pc.d)), .d (.int w)] μ = .ok (.d (.int (changedI ps w))) μ := by
  have f : ∀ b : D, fin μ.length (.rt (.d b) μ) = .ok (.d b) μ := fun b => x_fin _ _ _ rfl
  have h1 := lpiece_of_spec ps w μ
  rw [show g__law_changed = fnOf 2 3 F__law_changed from rfl, fnOf2]
  cases ho : pieceOf ps w with
  | none =>
    rw [ho] at h1
    simp [F__law_changed, h1, pD, changedI, ho, made, f]
  | some p =>
    rw [ho] at h1
    have nn : isNonW (.d p.d) = false := rfl
    have i2 := ix2d p
    have i3 := ix3d p
    have q := eq_add p.set
    cases hs : p.set with
    | true => rw [hs] at i2 q; simp [F__law_changed, h1, pD, nn, i2, q, i3, changedI, ho, made, hs, f]
    | false => rw [hs] at i2 q; simp [F__law_changed, h1, pD, nn, i2, q, i3, changedI, ho, made, hs, f]
end Pure

set_option linter.all false
set_option Elab.async false
set_option maxRecDepth 100000
set_option maxHeartbeats 1000000
/-! The plain law: statements turned about. -/
namespace Pure
open PySem Mi Mir
def negO (o : Option Int) : Option Int := o.map fun i => -i
theorem turned_end_spec (o : Option Int) (μ : Sto) : g_turned_end [.d (oD o)] μ = .ok (.d (oD (negO o))) μ := by
  have f : ∀ b : D, fin μ.length (.rt (.d b) μ) = .ok (.d b) μ := fun b => x_fin _ _ _ rfl
  rw [show g_turned_end = fnOf 1 1 F_turned_end from rfl, fnOf1]
  cases o with
  | none => simp [F_turned_end, negO, f]
  | some i => simp [F_turned_end, negO, f]
def Pc.turn (p : Pc) : Pc := ⟨negO p.hi, negO p.lo, p.set, -p.by_⟩
def turnPs (ps : List Pc) : List Pc := ps.reverse.map Pc.turn
theorem turned_spec (ps : List Pc) (μ : Sto) : g_turned [.d (.tuple (ps.map Pc.d))] μ = .ok (.d (.tuple ((turnPs ps).map Pc.d))) μ := by
  have f : ∀ b : D, fin μ.length (.rt (.d b) μ) = .ok (.d b) μ := fun b => x_fin _ _ _ rfl
  have rv : dRev (.tuple (ps.map Pc.d)) = some (.tuple (ps.reverse.map Pc.d)) := by
    show some (PyData.tuple (ps.map Pc.d).reverse) = _
    rw [List.map_reverse]
  have lc : ∀ ρ : Mi.Env, ρ.length = 2 → lcL (tName 1) eYes (eTup (aCons (eCall g_turned_end (aCons (eOp dIx (eVar 1) (eInt 1)) aNil)) (aCons (eCall g_turned_end (aCons (eOp dIx (eVar 1) (eInt 0)) aNil)) (aCons (eOp dIx (eVar 1) (eInt 2)) (aCons (eUn dNeg (eOp dIx (eVar 1) (eInt 3))) aNil))))) ρ (ps.reverse.map Pc.d) [] μ = .ok (.d (.list ((turnPs ps).map Pc.d))) μ := fun ρ hρ => by
    rw [lc_mapT Pc.d (fun p => p.turn.d) ps.reverse [] fun p hp => ⟨ρ.set 1 (some (.d p.d)), rfl, rfl, ?_⟩]
    · rw [List.nil_append]
      unfold turnPs
      rw [List.map_map]
      rfl
    · have i0 : dIx p.d (.int 0) = some (oD p.lo) := rfl
      have i1 : dIx p.d (.int 1) = some (oD p.hi) := rfl
      simp [hρ, i0, i1, ix2d, ix3d, turned_end_spec]
      rfl
  rw [show g_turned = fnOf 1 2 F_turned from rfl, fnOf1]
  unfold F_turned
  rw [x_sRet, x_eBlt, x_aCons, x_eLc, x_iSeq, x_eUn]
  simp only [x_eVar, List.getElem?_cons_zero, R.bind_ok, view_d, Option.bind_some, rv, Option.map_some, ofO_some, items, List.replicate, Nat.reduceSub]
  rw [lc _ (by simp [wipeE])]
  simp [bTup, f]
def gdown (s : St) : Bool := match s.wk with
  | .place => s.ps.any fun p => !p.set && decide (p.by_ < 0)
  | .way u _ _ => !u
  | .first => false
theorem eqv_nilL (l : List D) : PyData.eqv (.list l) (.list []) = l.isEmpty := by cases l <;> rfl
theorem goes_down_spec {s : St} (μ : Sto) : g_goes_down [.d s.d] μ = .ok (.d (.bool (gdown s))) μ := by
  have f : ∀ b : D, fin μ.length (.rt (.d b) μ) = .ok (.d b) μ := fun b => x_fin _ _ _ rfl
  have tg : ∀ (x1 x2 x3 : Option W), tTup [tName 1, tName 2] s.d [some (.d s.d), x1, x2, x3] = some [some (.d s.d), some (.d (.tuple (s.ps.map Pc.d))), some (.d s.wk.d), x3] := fun _ _ _ => rfl
  rw [show g_goes_down = fnOf 1 4 F_goes_down from rfl, fnOf1]
  unfold F_goes_down
  rw [x_sSeq, x_sTgt]
  simp only [x_eVar, List.getElem?_cons_zero, R.bindS_ok, List.replicate, Nat.reduceSub, tg]
  cases hw : s.wk with
  | first =>
    have i0 : dIx (Wk.d .first) (.int 0) = some (.str "first") := rfl
    have q1 : dEq (.str "first") (.str "place") = some (.bool false) := by kernel_rfl
    have q2 : dEq (.str "first") (.str "down") = some (.bool false) := by kernel_rfl
    simp [i0, q1, q2, gdown, hw, f]
  | way u lo hi =>
    have i0 : dIx (Wk.d (.way u lo hi)) (.int 0) = some (.str (wayS u)) := rfl
    have q1 : dEq (.str (wayS u)) (.str "place") = some (.bool false) := by cases u <;> kernel_rfl
    have q2 : dEq (.str (wayS u)) (.str "down") = some (.bool (!u)) := by cases u <;> kernel_rfl
    simp [i0, q1, q2, gdown, hw, f]
  | place =>
    have i0 : dIx (Wk.d .place) (.int 0) = some (.str "place") := rfl
    have q1 : dEq (.str "place") (.str "place") = some (.bool true) := by kernel_rfl
    have lc : ∀ ρ : Mi.Env, ρ.length = 4 → lcL (tName 3) (eAnd (eOp dEq (eOp dIx (eVar 3) (eInt 2)) (eStr "add")) (eOp dLt (eOp dIx (eVar 3) (eInt 3)) (eInt 0))) (eVar 3) ρ (s.ps.map Pc.d) [] μ = .ok (.d (.list ((s.ps.filter fun p => !p.set && decide (p.by_ < 0)).map Pc.d))) μ := fun ρ hρ => by
      have z : ∀ (l : List Pc) (acc : List D), lcL (tName 3) (eAnd (eOp dEq (eOp dIx (eVar 3) (eInt 2)) (eStr "add")) (eOp dLt (eOp dIx (eVar 3) (eInt 3)) (eInt 0))) (eVar 3) ρ (l.map Pc.d) acc μ = .ok (.d (.list (acc ++ (l.filter fun p => !p.set && decide (p.by_ < 0)).map Pc.d))) μ := by
        intro l
        induction l with
        | nil => intro acc; simp [lcL]
        | cons p r ih =>
          intro acc
          have i2 := ix2d p
          have i3 := ix3d p
          have q := eq_add p.set
          cases hs : p.set with
          | true =>
            rw [hs] at i2 q
            simp [lcL, hρ, i2, q, ih, hs]
          | false =>
            rw [hs] at i2 q
            by_cases hb : p.by_ < 0
            · simp [lcL, hρ, i2, i3, q, ih, hs, hb]
            · simp [lcL, hρ, i2, i3, q, ih, hs, hb]
      exact z s.ps []
    have ne := dNeD (a := .list ((s.ps.filter fun p => !p.set && decide (p.by_ < 0)).map Pc.d)) (b := .list []) ((Sh.lst (n := 1) fun x hx => by
      obtain ⟨p, _, rfl⟩ := List.mem_map.mp hx
      exact sh_pc p).shaped (by decide)) rfl
    rw [eqv_nilL] at ne
    have an : (!(((s.ps.filter fun p => !p.set && decide (p.by_ < 0)).map Pc.d).isEmpty)) = s.ps.any fun p => !p.set && decide (p.by_ < 0) := by
      induction s.ps with
      | nil => rfl
      | cons p r ih =>
        rw [List.any_cons, List.filter_cons]
        cases (!p.set && decide (p.by_ < 0)) with
        | true => rfl
        | false => simpa using ih
    rw [an] at ne
    rw [x_sSeq, x_sIf]
    simp only [x_eOp, x_eVar, x_eInt, x_eStr, List.getElem?_cons_zero, List.getElem?_cons_succ, R.bind_ok, view_d, Option.bind_some, i0, Option.map_some, ofO_some, q1, RS.test_ok, if_true, x_sRet, x_eLc, x_iSeq, items]
    rw [lc _ (by simp [wipeE])]
    simp [ne, f, gdown, hw]
def rise (s : St) : St := if gdown s then (match s.wk with
  | .way _ lo hi => ⟨turnPs s.ps, .way true (negO hi) (negO lo)⟩
  | w => ⟨turnPs s.ps, w⟩) else s
theorem risen_spec {s : St} (μ : Sto) : g_risen [.d s.d] μ = .ok (.d (rise s).d) μ := by
  have f : ∀ b : D, fin μ.length (.rt (.d b) μ) = .ok (.d b) μ := fun b => x_fin _ _ _ rfl
  have tg : ∀ (x1 x2 : Option W), tTup [tName 1, tName 2] s.d [some (.d s.d), x1, x2] = some [some (.d s.d), some (.d (.tuple (s.ps.map Pc.d))), some (.d s.wk.d)] := fun _ _ => rfl
  have gd := goes_down_spec (s := s) μ
  have tn := turned_spec s.ps μ
  rw [show g_risen = fnOf 1 3 F_risen from rfl, fnOf1]
  unfold F_risen
  cases hg : gdown s with
  | false =>
    rw [hg] at gd
    simp [gd, f, rise, hg]
  | true =>
    rw [hg] at gd
    rw [x_sSeq, x_sIf]
    simp only [x_eNot, x_eCall, x_aCons, x_aNil, x_eVar, List.getElem?_cons_zero, R.bind_ok, gd, R.test_ok, RS.test_ok, Bool.not_true, Bool.false_eq_true, if_false, x_sNil, List.replicate, Nat.reduceSub]
    rw [x_sSeq, x_sTgt]
    simp only [x_eVar, List.getElem?_cons_zero, R.bindS_ok, tg]
    cases hw : s.wk with
    | first => simp [gdown, hw] at hg
    | place =>
      have i0 : dIx (Wk.d .place) (.int 0) = some (.str "place") := rfl
      have q1 : dEq (.str "place") (.str "place") = some (.bool true) := by kernel_rfl
      simp [i0, q1, tn, rise, hg, hw, f]
      rfl
    | way u lo hi =>
      have i0 : dIx (Wk.d (.way u lo hi)) (.int 0) = some (.str (wayS u)) := rfl
      have i1 : dIx (Wk.d (.way u lo hi)) (.int 1) = some (oD lo) := rfl
      have i2 : dIx (Wk.d (.way u lo hi)) (.int 2) = some (oD hi) := rfl
      have q1 : dEq (.str (wayS u)) (.str "place") = some (.bool false) := by cases u <;> kernel_rfl
      simp [i0, i1, i2, q1, tn, turned_end_spec, rise, hg, hw, f]
      rfl
def signI (s : St) : Int := if gdown s then -1 else 1
theorem sign_of_spec {s : St} (μ : Sto) : g_sign_of [.d s.d] μ = .ok (.d (.int (signI s))) μ := by
  have f : ∀ b : D, fin μ.length (.rt (.d b) μ) = .ok (.d b) μ := fun b => x_fin _ _ _ rfl
  have gd := goes_down_spec (s := s) μ
  rw [show g_sign_of = fnOf 1 1 F_sign_of from rfl, fnOf1]
  cases hg : gdown s with
  | false => rw [hg] at gd; simp [F_sign_of, gd, signI, hg, f]
  | true => rw [hg] at gd; simp [F_sign_of, gd, signI, hg, f]
def inWalk (k : Wk) (w : Int) : Bool := match k with
  | .way true lo hi => hasB lo hi w
  | _ => true
theorem in_walk_spec (k : Wk) (w : Int) (μ : Sto) : g_in_walk [.d k.d, .d (.int w)] μ = .ok (.d (.bool (inWalk k w))) μ := by
  have f : ∀ b : D, fin μ.length (.rt (.d b) μ) = .ok (.d b) μ := fun b => x_fin _ _ _ rfl
  rw [show g_in_walk = fnOf 2 2 F_in_walk from rfl, fnOf2]
  cases k with
  | first =>
    have i0 : dIx (Wk.d .first) (.int 0) = some (.str "first") := rfl
    have q1 : dNe (.str "first") (.str "up") = some (.bool true) := by kernel_rfl
    simp [F_in_walk, i0, q1, inWalk, f]
  | place =>
    have i0 : dIx (Wk.d .place) (.int 0) = some (.str "place") := rfl
    have q1 : dNe (.str "place") (.str "up") = some (.bool true) := by kernel_rfl
    simp [F_in_walk, i0, q1, inWalk, f]
  | way u lo hi =>
    have i0 : dIx (Wk.d (.way u lo hi)) (.int 0) = some (.str (wayS u)) := rfl
    have i1 : dIx (Wk.d (.way u lo hi)) (.int 1) = some (oD lo) := rfl
    have i2 : dIx (Wk.d (.way u lo hi)) (.int 2) = some (oD hi) := rfl
    cases u with
    | true =>
      have q1 : dNe (.str (wayS true)) (.str "up") = some (.bool false) := by kernel_rfl
      have h := has_spec lo hi [] w μ
      simp [F_in_walk, i0, i1, i2, q1, h, inWalk, f]
    | false =>
      have q1 : dNe (.str (wayS false)) (.str "up") = some (.bool true) := by kernel_rfl
      simp [F_in_walk, i0, q1, inWalk, f]
/-- what the law says of a row that is met -/
def metI (s : St) (w : Int) : Bool := match s.wk with
  | .way _ lo hi => hasB lo hi w
  | _ => true
theorem geO_neg (o : Option Int) (w : Int) : geO (negO o) (-w) = leO o w := by
  cases o with
  | none => rfl
  | some i =>
    show decide (-w ≤ -i) = decide (i ≤ w)
    by_cases h : i ≤ w
    · rw [decide_eq_true h, decide_eq_true (by omega)]
    · rw [decide_eq_false h, decide_eq_false (by omega)]
theorem leO_neg (o : Option Int) (w : Int) : leO (negO o) (-w) = geO o w := by
  cases o with
  | none => rfl
  | some i =>
    show decide (-i ≤ -w) = decide (w ≤ i)
    by_cases h : w ≤ i
    · rw [decide_eq_true h, decide_eq_true (by omega)]
    · rw [decide_eq_false h, decide_eq_false (by omega)]
theorem hasB_neg (lo hi : Option Int) (w : Int) : hasB (negO hi) (negO lo) (-w) = hasB lo hi w := by
  unfold hasB
  rw [leO_neg, geO_neg, Bool.and_comm]
theorem met_eq (s : St) (w : Int) : inWalk (rise s).wk (signI s * w) = metI s w := by
  obtain ⟨ps, k⟩ := s
  cases k with
  | first => rfl
  | place =>
    unfold rise metI
    split <;> rfl
  | way u lo hi =>
    cases u with
    | true =>
      have : signI ⟨ps, .way true lo hi⟩ * w = w := by
        show (1 : Int) * w = w
        omega
      rw [this]
      rfl
    | false =>
      have : signI ⟨ps, .way false lo hi⟩ * w = -w := by
        show (-1 : Int) * w = -w
        omega
      rw [this]
      show hasB (negO hi) (negO lo) (-w) = hasB lo hi w
      exact hasB_neg lo hi w
end Pure

set_option linter.all false
set_option Elab.async false
set_option maxRecDepth 100000
set_option maxHeartbeats 1000000
/-! The plain law: what becomes of a row, step by step and run by run. No program here. -/
namespace Pure
open PySem Mi Mir
def goB (s : St) (w : Int) : Bool := metI s w && (pieceOf s.ps w).isSome
def nxt (s : St) (w : Int) : Int := changedI s.ps w
def cont (s : St) (old new : Int) : Bool := match s.wk with
  | .way u _ _ => if u then decide (old < new) else decide (new < old)
  | .place => true
  | .first => false
/-- behind so many changes, each followed by another meeting -/
inductive Rch (s : St) (w : Int) : Nat → Int → Prop
  | refl : Rch s w 0 w
  | step {n : Nat} {v : Int} (h : Rch s w n v) (g : goB s v = true) (c : cont s v (nxt s v) = true) : Rch s w (n + 1) (nxt s v)
theorem Rch.det {s : St} {w : Int} {n : Nat} {v : Int} (h : Rch s w n v) : ∀ {v'}, Rch s w n v' → v = v' := by
  induction h with
  | refl => intro v' h'; cases h'; rfl
  | step h g c ih => intro v' h'; cases h' with | step h2 _ _ => rw [ih h2]
theorem Rch.add {s : St} {w v u : Int} {n m : Nat} (h : Rch s w n v) (h2 : Rch s v m u) : Rch s w (n + m) u := by
  induction h2 with
  | refl => exact h
  | step _ g c ih => exact .step ih g c
theorem Rch.pre {s : St} {w : Int} {n : Nat} {v : Int} (h : Rch s w n v) : ∀ m, m ≤ n → ∃ u, Rch s w m u ∧ Rch s u (n - m) v := by
  induction h with
  | refl => intro m hm; exact ⟨w, by rw [show m = 0 by omega]; exact .refl, by rw [show 0 - m = 0 by omega]; exact .refl⟩
  | @step n v h g c ih =>
    intro m hm
    by_cases he : m = n + 1
    · subst he
      exact ⟨_, .step h g c, by rw [Nat.sub_self]; exact .refl⟩
    · obtain ⟨u, h1, h2⟩ := ih m (by omega)
      exact ⟨u, h1, by rw [show n + 1 - m = (n - m) + 1 by omega]; exact .step h2 g c⟩
theorem Rch.alive {s : St} {w : Int} {n m : Nat} {v u : Int} (h : Rch s w n v) (hm : m < n) (hu : Rch s w m u) : goB s u = true ∧ cont s u (nxt s u) = true := by
  obtain ⟨u', h1, h2⟩ := h.pre (m + 1) (by omega)
  cases h1 with
  | step h3 g c => rw [hu.det h3]; exact ⟨g, c⟩
def Ends (s : St) (w : Int) (T : Nat) (L : Int) : Prop := (Rch s w T L ∧ goB s L = false) ∨ ∃ n v, T = n + 1 ∧ Rch s w n v ∧ goB s v = true ∧ cont s v (nxt s v) = false ∧ L = nxt s v
def Endless (s : St) (w : Int) : Prop := ∀ n, ∃ v, Rch s w n v
theorem Ends.not_endless {s : St} {w : Int} {T : Nat} {L : Int} (h : Ends s w T L) (e : Endless s w) : False := by
  rcases h with ⟨h, g⟩ | ⟨n, v, rfl, h, g, c, rfl⟩
  · obtain ⟨u, hu⟩ := e (T + 1)
    have := (hu.alive (Nat.lt_succ_self _) h).1
    rw [g] at this
    cases this
  · obtain ⟨u, hu⟩ := e (n + 1)
    have := (hu.alive (Nat.lt_succ_self _) h).2
    rw [c] at this
    cases this
/-- a row that comes to one worth twice goes on for ever -/
theorem endless_of_twice {s : St} {w v : Int} {a n : Nat} (h1 : Rch s w a v) (h2 : Rch s w n v) (ha : a < n) : Endless s w := by
  obtain ⟨u, hu, hd⟩ := h2.pre a (by omega)
  rw [← h1.det hu] at hd
  have it : ∀ k, Rch s v (k * (n - a)) v := fun k => by
    induction k with
    | zero => rw [Nat.zero_mul]; exact .refl
    | succ k ih => rw [Nat.succ_mul]; exact ih.add hd
  intro m
  have hp : 0 < n - a := by omega
  have hm : m ≤ m * (n - a) := Nat.le_mul_of_pos_right m hp
  obtain ⟨u, hu, _⟩ := (h1.add (it m)).pre m (by omega)
  exact ⟨u, hu⟩
/-! ### runs, as the program makes them -/
structure Rn where
  b : Int
  m : Option Int
  st : Int
def Rn.d (r : Rn) : D := .tuple [.int r.b, oD r.m, .int r.st]
def Rn.fin (w : Int) : Rn := ⟨w, some 0, 0⟩
def minO : Option Int → Option Int → Option Int
  | none, b => b
  | some a, none => some a
  | some a, some b => some (if b < a then b else a)
def roof (p : Pc) (k : Wk) : Option Int := match k with
  | .way true _ hi => minO p.hi hi
  | _ => p.hi
def notFirst : Wk → Bool
  | .first => false
  | _ => true
def manyOf (s : St) (p : Pc) (w : Int) : Option Int := if (!p.set && (decide (0 < p.by_) && notFirst s.wk)) = true then (roof p s.wk).map fun r => (r - w) / p.by_ + 1 else some 1
def stepOf (p : Pc) (w : Int) : Int := made (some p) w - w
def againB (k : Wk) (old new : Int) : Bool := match k with
  | .way true _ hi => decide (old < new) && geO hi new
  | .place => true
  | _ => false
def runsO (s : St) : Nat → List Rn → Int → Option (List Rn)
  | 0, _, _ => none
  | n + 1, rs, w => match (if inWalk s.wk w = true then pieceOf s.ps w else none) with
    | none => some (rs ++ [Rn.fin w])
    | some p => if rs.any (fun r => r.b == w) = true then some (rs ++ [Rn.fin w]) else
      match manyOf s p w with
      | none => some (rs ++ [⟨w, none, stepOf p w⟩])
      | some m => if againB s.wk (w + (m - 1) * stepOf p w) (w + m * stepOf p w) = true then runsO s n (rs ++ [⟨w, some m, stepOf p w⟩]) (w + m * stepOf p w)
        else some (rs ++ [⟨w, some m, stepOf p w⟩] ++ [Rn.fin (w + m * stepOf p w)])
/-- a statement whose rows go up -/
structure Up (s : St) : Prop where
  wk : ∀ lo hi, s.wk ≠ .way false lo hi
  pl : s.wk = .place → ∀ p ∈ s.ps, p.set = false → 0 < p.by_
  four : s.ps.length ≤ 4
theorem Up.met {s : St} (h : Up s) (w : Int) : inWalk s.wk w = metI s w := by
  have := h.wk
  unfold metI
  cases hk : s.wk with
  | first => rfl
  | place => rfl
  | way u lo hi => cases u with
    | true => rfl
    | false => exact absurd hk (this lo hi)
theorem pieceOf_mem {ps : List Pc} {w : Int} {p : Pc} (h : pieceOf ps w = some p) : p ∈ ps ∧ hasB p.lo p.hi w = true := ⟨List.mem_of_find?_eq_some h, by simpa using List.find?_some h⟩
/-! pieces lie apart -/
theorem leO_mono {o : Option Int} {a b : Int} (h : leO o a = true) (hab : a ≤ b) : leO o b = true := by
  cases o with
  | none => rfl
  | some i =>
    have h : decide (i ≤ a) = true := h
    show decide (i ≤ b) = true
    rw [decide_eq_true_eq] at h ⊢
    omega
theorem geO_mono {o : Option Int} {a b : Int} (h : geO o b = true) (hab : a ≤ b) : geO o a = true := by
  cases o with
  | none => rfl
  | some i =>
    have h : decide (b ≤ i) = true := h
    show decide (a ≤ i) = true
    rw [decide_eq_true_eq] at h ⊢
    omega
/-- from one piece on: the least worths come later -/
def Later (w : Int) (ps : List Pc) : Prop := ∀ p ∈ ps, ∃ l, p.lo = some l ∧ w < l
theorem apart_later : ∀ {p : Pc} {r : List Pc} {w : Int}, Apart (p :: r) → (∀ q ∈ p :: r, ∀ i j, q.lo = some i → q.hi = some j → i ≤ j) → geO p.hi w = true → Later w r
  | p, [], w, _, _, _ => fun q hq => by cases hq
  | p, q :: r, w, ha, hl, hg => by
    obtain ⟨⟨h, l, h1, h2, h3⟩, hr⟩ := ha
    rw [h1] at hg
    have hg : decide (w ≤ h) = true := hg
    rw [decide_eq_true_eq] at hg
    have gq : geO q.hi w = true := by
      cases hq : q.hi with
      | none => rfl
      | some j =>
        have := hl q (by simp) l j h2 hq
        show decide (w ≤ j) = true
        rw [decide_eq_true_eq]
        omega
    have ih := apart_later hr (fun x hx => hl x (List.mem_cons_of_mem _ hx)) gq
    intro x hx
    rcases List.mem_cons.mp hx with rfl | hx
    · exact ⟨l, h2, by omega⟩
    · exact ih x hx
/-- a worth is in one piece at most -/
theorem piece_uniq : ∀ {ps : List Pc} {p : Pc} {w : Int}, Apart ps → (∀ q ∈ ps, ∀ i j, q.lo = some i → q.hi = some j → i ≤ j) → p ∈ ps → hasB p.lo p.hi w = true → pieceOf ps w = some p
  | q :: r, p, w, ha, hl, hp, hw => by
    have hw2 : leO p.lo w = true ∧ geO p.hi w = true := by simpa [hasB] using hw
    rcases List.mem_cons.mp hp with rfl | hp
    · simp [pieceOf, hw]
    · cases hq : hasB q.lo q.hi w with
      | true =>
        have hq2 : leO q.lo w = true ∧ geO q.hi w = true := by simpa [hasB] using hq
        obtain ⟨l, h1, h2⟩ := apart_later ha hl hq2.2 p hp
        rw [h1] at hw2
        have h3 : decide (l ≤ w) = true := hw2.1
        rw [decide_eq_true_eq] at h3
        omega
      | false =>
        have ha' : Apart r := by
          cases r with
          | nil => exact True.intro
          | cons x t => exact ha.2
        have := piece_uniq ha' (fun x hx => hl x (List.mem_cons_of_mem _ hx)) hp hw
        simpa [pieceOf, hq] using this
structure Sep (ps : List Pc) : Prop where
  apart : Apart ps
  le : ∀ q ∈ ps, ∀ i j, q.lo = some i → q.hi = some j → i ≤ j
theorem Sep.in_ {ps : List Pc} (h : Sep ps) {p : Pc} {w v : Int} (hp : pieceOf ps w = some p) (h1 : w ≤ v) (h2 : geO p.hi v = true) : pieceOf ps v = some p := by
  obtain ⟨hm, hw⟩ := pieceOf_mem hp
  have hw2 : leO p.lo w = true ∧ geO p.hi w = true := by simpa [hasB] using hw
  exact piece_uniq h.apart h.le hm (by unfold hasB; rw [leO_mono hw2.1 h1, h2]; rfl)
theorem minO_le {a b : Option Int} {r : Int} (h : minO a b = some r) {v : Int} (hv : v ≤ r) : geO a v = true ∧ geO b v = true := by
  cases a with
  | none =>
    cases b with
    | none => cases h
    | some j => cases h; exact ⟨rfl, decide_eq_true hv⟩
  | some i =>
    cases b with
    | none => cases h; exact ⟨decide_eq_true hv, rfl⟩
    | some j =>
      have h : some (if j < i then j else i) = some r := h
      injection h with h
      have : r ≤ i ∧ r ≤ j := by split at h <;> omega
      exact ⟨decide_eq_true (by omega), decide_eq_true (by omega)⟩
theorem minO_none {a b : Option Int} (h : minO a b = none) : a = none ∧ b = none := by
  cases a <;> cases b <;> simp [minO] at h ⊢
theorem roof_le {s : St} (hu : Up s) {p : Pc} {r w v : Int} (h : roof p s.wk = some r) (hg : metI s w = true) (hwv : w ≤ v) (hv : v ≤ r) : geO p.hi v = true ∧ metI s v = true := by
  unfold metI at hg ⊢
  cases hk : s.wk with
  | first => rw [hk] at h; have h : p.hi = some r := h; rw [h]; exact ⟨decide_eq_true hv, rfl⟩
  | place => rw [hk] at h; have h : p.hi = some r := h; rw [h]; exact ⟨decide_eq_true hv, rfl⟩
  | way u lo hi =>
    cases u with
    | false => exact absurd hk (hu.wk lo hi)
    | true =>
      rw [hk] at h hg
      obtain ⟨h1, h2⟩ := minO_le h hv
      have hg2 : leO lo w = true ∧ geO hi w = true := by simpa [hasB] using hg
      exact ⟨h1, by show hasB lo hi v = true; unfold hasB; rw [leO_mono hg2.1 hwv, h2]; rfl⟩
theorem roof_none {s : St} (hu : Up s) {p : Pc} {w v : Int} (h : roof p s.wk = none) (hg : metI s w = true) (hwv : w ≤ v) : geO p.hi v = true ∧ metI s v = true := by
  unfold metI at hg ⊢
  cases hk : s.wk with
  | first => rw [hk] at h; have h : p.hi = none := h; rw [h]; exact ⟨rfl, rfl⟩
  | place => rw [hk] at h; have h : p.hi = none := h; rw [h]; exact ⟨rfl, rfl⟩
  | way u lo hi =>
    cases u with
    | false => exact absurd hk (hu.wk lo hi)
    | true =>
      rw [hk] at h hg
      obtain ⟨h1, h2⟩ := minO_none h
      have hg2 : leO lo w = true ∧ geO hi w = true := by simpa [hasB] using hg
      rw [h1, h2]
      exact ⟨rfl, by show hasB lo none v = true; unfold hasB; rw [leO_mono hg2.1 hwv]; rfl⟩
theorem cont_up {s : St} (hu : Up s) (hf : notFirst s.wk = true) {a b : Int} (h : a < b) : cont s a b = true := by
  unfold cont
  cases hk : s.wk with
  | first => rw [hk] at hf; cases hf
  | place => rfl
  | way u lo hi =>
    cases u with
    | false => exact absurd hk (hu.wk lo hi)
    | true => exact decide_eq_true h
theorem again_cont {s : St} (hu : Up s) {a b : Int} (h : againB s.wk a b = true) : cont s a b = true := by
  unfold againB at h
  unfold cont
  cases hk : s.wk with
  | first => rw [hk] at h; cases h
  | place => rfl
  | way u lo hi =>
    cases u with
    | false => exact absurd hk (hu.wk lo hi)
    | true =>
      rw [hk] at h
      have h : (decide (a < b) && geO hi b) = true := h
      rw [Bool.and_eq_true] at h
      exact h.1
/-- not met again, though it went on: it is out of the walk -/
theorem again_out {s : St} (hu : Up s) {a b : Int} (h : againB s.wk a b = false) (hc : cont s a b = true) : goB s b = false := by
  unfold againB at h
  unfold cont at hc
  unfold goB metI
  cases hk : s.wk with
  | first => rw [hk] at hc; cases hc
  | place => rw [hk] at h; cases h
  | way u lo hi =>
    cases u with
    | false => exact absurd hk (hu.wk lo hi)
    | true =>
      rw [hk] at h hc
      have hc : decide (a < b) = true := hc
      have h : (decide (a < b) && geO hi b) = false := h
      rw [hc, Bool.true_and] at h
      show (hasB lo hi b && _) = false
      unfold hasB
      rw [h]
      simp
theorem nxt_add {s : St} {w : Int} {p : Pc} (h : pieceOf s.ps w = some p) : nxt s w = made (some p) w := by unfold nxt changedI; rw [h]
theorem made_add {p : Pc} (hs : p.set = false) (w : Int) : made (some p) w = w + p.by_ := by simp [made, hs]
theorem made_set {p : Pc} (hs : p.set = true) (w : Int) : made (some p) w = p.by_ := by simp [made, hs]
theorem go_of {s : St} {w : Int} {p : Pc} (h1 : metI s w = true) (h2 : pieceOf s.ps w = some p) : goB s w = true := by unfold goB; rw [h1, h2]; rfl
/-- rising through a piece -/
theorem rise_run {s : St} (hu : Up s) (hp : Sep s.ps) {p : Pc} {w : Int} (h1 : metI s w = true) (h2 : pieceOf s.ps w = some p) (hs : p.set = false) (hb : 0 < p.by_) (hf : notFirst s.wk = true) (n : Nat)
    (hn : ∀ j : Nat, j < n → geO p.hi (w + j * p.by_) = true ∧ metI s (w + j * p.by_) = true) : Rch s w n (w + n * p.by_) := by
  induction n with
  | zero => simp; exact .refl
  | succ n ih =>
    have ih := ih fun j hj => hn j (by omega)
    obtain ⟨g1, g2⟩ := hn n (by omega)
    have hle : w ≤ w + n * p.by_ := by
      have : 0 ≤ (n : Int) * p.by_ := Int.mul_nonneg (by omega) (by omega)
      omega
    have pn := hp.in_ h2 hle g1
    have e : nxt s (w + n * p.by_) = w + (n + 1 : Nat) * p.by_ := by
      rw [nxt_add pn, made_add hs]
      push_cast
      rw [Int.add_mul, Int.one_mul]
      omega
    have hc : cont s (w + n * p.by_) (nxt s (w + n * p.by_)) = true := cont_up hu hf (by rw [nxt_add pn, made_add hs]; omega)
    have := Rch.step ih (go_of g2 pn) hc
    rw [e] at this
    exact this
/-- the runs that were made, one behind another: their number, and where the row is -/
inductive Chain (s : St) (w0 : Int) : List Rn → Nat → Int → Prop
  | nil : Chain s w0 [] 0 w0
  | snoc {rs : List Rn} {N : Nat} {v : Int} (h : Chain s w0 rs N v) (m : Nat) (hm : 1 ≤ m) (st : Int) (hr : ∀ j : Nat, j ≤ m → Rch s v j (v + j * st)) : Chain s w0 (rs ++ [⟨v, some (m : Int), st⟩]) (N + m) (v + m * st)
theorem Chain.rch {s : St} {w0 : Int} {rs : List Rn} {N : Nat} {v : Int} (h : Chain s w0 rs N v) : Rch s w0 N v := by
  induction h with
  | nil => exact .refl
  | snoc h m hm st hr ih => exact ih.add (hr m (Nat.le_refl _))
theorem Chain.start {s : St} {w0 : Int} {rs : List Rn} {N : Nat} {v : Int} (h : Chain s w0 rs N v) : ∀ r ∈ rs, ∃ a, a < N ∧ Rch s w0 a r.b := by
  induction h with
  | nil => intro r hr; cases hr
  | @snoc rs N v h m hm st hr ih =>
    intro r hr'
    rcases List.mem_append.mp hr' with hr' | hr'
    · obtain ⟨a, h1, h2⟩ := ih r hr'
      exact ⟨a, by omega, h2⟩
    · rw [List.mem_singleton.mp hr']
      exact ⟨N, by omega, h.rch⟩
/-- what comes out -/
inductive Out (s : St) (w0 : Int) : List Rn → Prop
  | stop {rs : List Rn} {N : Nat} {v : Int} (h : Chain s w0 rs N v) (hg : goB s v = false) : Out s w0 (rs ++ [Rn.fin v])
  | ring {rs : List Rn} {N : Nat} {v : Int} (h : Chain s w0 rs N v) (hg : goB s v = true) (hp : s.wk = .place) (hv : ∃ r ∈ rs, r.b = v) (he : Endless s w0) : Out s w0 (rs ++ [Rn.fin v])
  | far {rs : List Rn} {N : Nat} {v st : Int} (h : Chain s w0 rs N v) (hr : ∀ j : Nat, Rch s v j (v + j * st)) (he : Endless s w0) : Out s w0 (rs ++ [⟨v, none, st⟩])
  | last {rs : List Rn} {N : Nat} {v st : Int} (h : Chain s w0 rs N v) (m : Nat) (hm : 1 ≤ m) (hr : ∀ j : Nat, j < m → Rch s v j (v + j * st)) (hp : s.wk ≠ .place) (he : Ends s w0 (N + m) (v + m * st)) : Out s w0 (rs ++ [⟨v, some (m : Int), st⟩] ++ [Rn.fin (v + m * st)])
theorem way_rises {s : St} {lo hi : Option Int} (hk : s.wk = .way true lo hi) {w : Int} {n : Nat} {v : Int} (h : Rch s w n v) : w + n ≤ v := by
  induction h with
  | refl => simp
  | step h g c ih =>
    unfold cont at c
    rw [hk] at c
    have c : decide _ = true := c
    rw [decide_eq_true_eq] at c
    push_cast
    omega
theorem many_pos {r w b : Int} (h : w ≤ r) (hb : 0 < b) : ∃ m : Nat, (r - w) / b + 1 = (m : Int) ∧ 1 ≤ m ∧ (∀ j : Nat, j < m → w + j * b ≤ r) ∧ r < w + m * b := by
  have h0 : 0 ≤ (r - w) / b := Int.ediv_nonneg (by omega) (by omega)
  refine ⟨((r - w) / b + 1).toNat, by omega, by omega, fun j hj => ?_, ?_⟩
  · have hj' : (j : Int) ≤ (r - w) / b := by omega
    have : (j : Int) * b ≤ (r - w) / b * b := Int.mul_le_mul_of_nonneg_right hj' (by omega)
    have := Int.ediv_mul_le (r - w) (show b ≠ 0 by omega)
    omega
  · have e : (((r - w) / b + 1).toNat : Int) = (r - w) / b + 1 := by omega
    rw [e, Int.add_mul, Int.one_mul]
    have h1 := Int.emod_add_mul_ediv (r - w) b
    have h2 := Int.emod_lt_of_pos (r - w) hb
    rw [Int.mul_comm] at h1
    omega
theorem runs_out {s : St} (hu : Up s) (hp : Sep s.ps) {w0 : Int} : ∀ (n : Nat) (rs : List Rn) (N : Nat) (v : Int) (out : List Rn), Chain s w0 rs N v → runsO s n rs v = some out → Out s w0 out
  | n + 1, rs, N, v, out, hc, e => by
    unfold runsO at e
    rw [hu.met] at e
    cases hg : goB s v with
    | false =>
      have : (if metI s v = true then pieceOf s.ps v else none) = none := by
        unfold goB at hg
        cases h1 : metI s v with
        | false => rfl
        | true =>
          rw [h1, Bool.true_and] at hg
          rw [if_pos rfl]
          cases h2 : pieceOf s.ps v with
          | none => rfl
          | some p => rw [h2] at hg; cases hg
      rw [this] at e
      cases e
      exact .stop hc hg
    | true =>
      have hg2 := hg
      unfold goB at hg2
      rw [Bool.and_eq_true] at hg2
      obtain ⟨h1, h2⟩ := hg2
      obtain ⟨p, h2⟩ := Option.isSome_iff_exists.mp h2
      rw [h1, if_pos rfl, h2] at e
      dsimp only at e
      split at e
      · rename_i ha
        cases e
        rw [List.any_eq_true] at ha
        obtain ⟨r, hr, hb⟩ := ha
        have hb : r.b = v := by simpa using hb
        obtain ⟨a, ha1, ha2⟩ := hc.start r hr
        rw [hb] at ha2
        have he := endless_of_twice ha2 hc.rch ha1
        refine .ring hc hg ?_ ⟨r, hr, hb⟩ he
        cases hk : s.wk with
        | place => rfl
        | first =>
          have := (hc.rch.alive ha1 ha2).2
          unfold cont at this
          rw [hk] at this
          cases this
        | way u lo hi =>
          cases u with
          | false => exact absurd hk (hu.wk lo hi)
          | true =>
            obtain ⟨u, h3, h4⟩ := hc.rch.pre a (by omega)
            rw [← ha2.det h3] at h4
            have := way_rises hk h4
            omega
      · rename_i hna
        have gr := (pieceOf_mem h2).2
        have gr2 : leO p.lo v = true ∧ geO p.hi v = true := by simpa [hasB] using gr
        by_cases hm : (!p.set && (decide (0 < p.by_) && notFirst s.wk)) = true
        · have hm2 := hm
          simp only [Bool.and_eq_true, Bool.not_eq_true', decide_eq_true_eq] at hm2
          obtain ⟨hs, hb, hf⟩ := hm2
          have est : stepOf p v = p.by_ := by unfold stepOf; rw [made_add hs]; omega
          unfold manyOf at e
          rw [if_pos hm, est] at e
          cases hr : roof p s.wk with
          | none =>
            rw [hr] at e
            cases e
            have all : ∀ j : Nat, Rch s v j (v + j * p.by_) := fun j => rise_run hu hp h1 h2 hs hb hf j fun i _ => roof_none hu hr h1 (by
              have : 0 ≤ (i : Int) * p.by_ := Int.mul_nonneg (by omega) (by omega)
              omega)
            refine .far hc all fun m => ?_
            obtain ⟨u, hu', _⟩ := (hc.rch.add (all m)).pre m (by omega)
            exact ⟨u, hu'⟩
          | some r =>
            rw [hr] at e
            have hvr : v ≤ r := by
              -- the roof is not below a worth that is met
              unfold roof at hr
              cases hk : s.wk with
              | first => rw [hk] at hf; cases hf
              | place =>
                rw [hk] at hr
                have hr : p.hi = some r := hr
                rw [hr] at gr2
                exact of_decide_eq_true gr2.2
              | way u lo hi =>
                cases u with
                | false => exact absurd hk (hu.wk lo hi)
                | true =>
                  rw [hk] at hr
                  unfold metI at h1
                  rw [hk] at h1
                  have h1' : leO lo v = true ∧ geO hi v = true := by simpa [hasB] using h1
                  have hr : minO p.hi hi = some r := hr
                  cases hph : p.hi with
                  | none =>
                    rw [hph] at hr
                    have hr : hi = some r := hr
                    rw [hr] at h1'
                    exact of_decide_eq_true h1'.2
                  | some i =>
                    rw [hph] at hr gr2
                    have g2 : v ≤ i := of_decide_eq_true gr2.2
                    cases hi with
                    | none => cases hr; exact g2
                    | some j =>
                      have hr : some (if j < i then j else i) = some r := hr
                      injection hr with hr
                      have g3 : v ≤ j := of_decide_eq_true h1'.2
                      split at hr <;> omega
            obtain ⟨m, em, m1, mj, mr⟩ := many_pos hvr hb
            have em2 : (Option.map (fun r => (r - v) / p.by_ + 1) (some r)) = some (m : Int) := by rw [Option.map_some, em]
            rw [em2] at e
            dsimp only at e
            have all : ∀ j : Nat, j ≤ m → Rch s v j (v + j * p.by_) := fun j hj => rise_run hu hp h1 h2 hs hb hf j fun i hi => roof_le hu hr h1 (by
              have : 0 ≤ (i : Int) * p.by_ := Int.mul_nonneg (by omega) (by omega)
              omega) (mj i (by omega))
            split at e
            · exact runs_out hu hp n _ _ _ out (.snoc hc m m1 p.by_ all) e
            · rename_i hag
              cases e
              have e1 : v + ((m : Int) - 1) * p.by_ = v + ((m - 1 : Nat) : Int) * p.by_ := by
                rw [show ((m - 1 : Nat) : Int) = (m : Int) - 1 by omega]
              have hag' : againB s.wk (v + ((m - 1 : Nat) : Int) * p.by_) (v + m * p.by_) = false := by
                rw [← e1]; simpa using hag
              have hcont : cont s (v + ((m - 1 : Nat) : Int) * p.by_) (v + m * p.by_) = true := cont_up hu hf (by
                have : (m : Int) * p.by_ = ((m - 1 : Nat) : Int) * p.by_ + p.by_ := by
                  rw [show (m : Int) = ((m - 1 : Nat) : Int) + 1 by omega, Int.add_mul, Int.one_mul] <;> omega
                omega)
              refine .last hc m m1 (fun j hj => all j (by omega)) (fun hk => ?_) (.inl ⟨hc.rch.add (all m (Nat.le_refl _)), again_out hu hag' hcont⟩)
              unfold againB at hag'
              rw [hk] at hag'
              cases hag'
        · unfold manyOf at e
          rw [if_neg hm] at e
          dsimp only at e
          have e1 : v + ((1 : Int) - 1) * stepOf p v = v := by simp
          have e2 : v + (1 : Int) * stepOf p v = nxt s v := by
            rw [nxt_add h2]; unfold stepOf; omega
          rw [e1] at e
          split at e
          · rename_i hag
            rw [e2] at hag
            have hct := again_cont hu hag
            have all : ∀ j : Nat, j ≤ 1 → Rch s v j (v + j * stepOf p v) := fun j hj => by
              have : j = 0 ∨ j = 1 := by omega
              rcases this with rfl | rfl
              · simp; exact .refl
              · have := Rch.step (Rch.refl (s := s) (w := v)) hg hct
                rw [← e2] at this
                exact this
            exact runs_out hu hp n _ _ _ out (.snoc hc 1 (Nat.le_refl _) (stepOf p v) all) e
          · rename_i hag
            cases e
            have hag' : againB s.wk v (nxt s v) = false := by rw [← e2]; simpa using hag
            refine .last (m := 1) hc (Nat.le_refl _) (fun j hj => ?_) (fun hk => ?_) ?_
            · rw [show j = 0 by omega]; simp; exact .refl
            · unfold againB at hag'
              rw [hk] at hag'
              cases hag'
            · have e3 : v + ((1 : Nat) : Int) * stepOf p v = nxt s v := e2
              rw [e3]
              cases hct : cont s v (nxt s v) with
              | true => exact .inl ⟨hc.rch.add (.step .refl hg hct), again_out hu hag' hct⟩
              | false => exact .inr ⟨N, v, rfl, hc.rch, hg, hct, rfl⟩
/-! ### it comes to an end -/
theorem filter_le {α : Type} {p q : α → Bool} : ∀ {l : List α}, (∀ x ∈ l, p x = true → q x = true) → (l.filter p).length ≤ (l.filter q).length
  | [], _ => Nat.le_refl _
  | a :: l, h => by
    have ih := filter_le (l := l) fun x hx => h x (List.mem_cons_of_mem _ hx)
    rw [List.filter_cons, List.filter_cons]
    by_cases hp : p a = true
    · rw [if_pos hp, if_pos (h a List.mem_cons_self hp), List.length_cons, List.length_cons]
      omega
    · rw [if_neg hp]
      split
      · rw [List.length_cons]; omega
      · exact ih
theorem filter_lt {α : Type} {p q : α → Bool} : ∀ {l : List α} {x : α}, (∀ x ∈ l, p x = true → q x = true) → x ∈ l → q x = true → p x = false → (l.filter p).length < (l.filter q).length
  | a :: l, x, h, hx, hq, hp => by
    rw [List.filter_cons, List.filter_cons]
    rcases List.mem_cons.mp hx with rfl | hx
    · rw [if_neg (by rw [hp]; simp), if_pos hq, List.length_cons]
      have := filter_le (l := l) fun y hy => h y (List.mem_cons_of_mem _ hy)
      omega
    · have ih := filter_lt (l := l) (fun y hy => h y (List.mem_cons_of_mem _ hy)) hx hq hp
      by_cases ha : p a = true
      · rw [if_pos ha, if_pos (h a List.mem_cons_self ha), List.length_cons, List.length_cons]
        omega
      · rw [if_neg ha]
        split
        · rw [List.length_cons]; omega
        · exact ih
def freeB (rs : List Rn) (w : Int) (p : Pc) : Bool := p.set && (!(rs.any fun r => r.b == p.by_) && !(p.by_ == w))
def mU (s : St) (rs : List Rn) (w : Int) : Nat := (s.ps.filter (freeB rs w)).length
def mR (s : St) (w : Int) : Nat := (s.ps.filter fun p => geO p.hi w).length
theorem mR_le (s : St) (w : Int) : mR s w ≤ s.ps.length := List.length_filter_le _ _
theorem mU_le (s : St) (rs : List Rn) (w : Int) : mU s rs w ≤ s.ps.length := List.length_filter_le _ _
theorem free_mono {rs : List Rn} {w v st : Int} {m : Option Int} {p : Pc} (h : freeB (rs ++ [⟨w, m, st⟩]) v p = true) : freeB rs w p = true := by
  unfold freeB at h ⊢
  simp only [Bool.and_eq_true, Bool.not_eq_true', List.any_append, Bool.or_eq_false_iff, List.any_cons, List.any_nil, Bool.or_false] at h ⊢
  refine ⟨h.1, h.2.1.1, ?_⟩
  have := h.2.1.2
  rw [beq_eq_false_iff_ne] at this ⊢
  exact fun e => this e.symm
theorem runs_some {s : St} (hu : Up s) (hp : Sep s.ps) : ∀ (n : Nat) (rs : List Rn) (w : Int), mU s rs w * 5 + mR s w + 2 ≤ n → ∃ out, runsO s n rs w = some out
  | n + 1, rs, w, hn => by
    unfold runsO
    rw [hu.met]
    cases h1 : metI s w with
    | false => exact ⟨_, rfl⟩
    | true =>
      rw [if_pos rfl]
      cases h2 : pieceOf s.ps w with
      | none => exact ⟨_, rfl⟩
      | some p =>
        dsimp only
        split
        · exact ⟨_, rfl⟩
        · rename_i hna
          cases hmo : manyOf s p w with
          | none => exact ⟨_, rfl⟩
          | some m =>
            dsimp only
            split
            · rename_i hag
              have four := hu.four
              obtain ⟨hmem, hhas⟩ := pieceOf_mem h2
              have hhas2 : leO p.lo w = true ∧ geO p.hi w = true := by simpa [hasB] using hhas
              by_cases hm : (!p.set && (decide (0 < p.by_) && notFirst s.wk)) = true
              · have hm2 := hm
                simp only [Bool.and_eq_true, Bool.not_eq_true', decide_eq_true_eq] at hm2
                obtain ⟨hs, hb, hf⟩ := hm2
                have est : stepOf p w = p.by_ := by unfold stepOf; rw [made_add hs]; omega
                unfold manyOf at hmo
                rw [if_pos hm] at hmo
                cases hr : roof p s.wk with
                | none => rw [hr] at hmo; cases hmo
                | some r =>
                  rw [hr, Option.map_some] at hmo
                  injection hmo with hmo
                  rw [est] at hag ⊢
                  have hlt : r < w + m * p.by_ := by
                    rw [← hmo, Int.add_mul, Int.one_mul]
                    have h3 := Int.emod_add_mul_ediv (r - w) p.by_
                    have h4 := Int.emod_lt_of_pos (r - w) hb
                    rw [Int.mul_comm] at h3
                    omega
                  have hwv : w < w + m * p.by_ ∨ True := .inr trivial
                  -- the roof is the piece's own: the walk's end would have stopped it
                  have hph : p.hi = some r := by
                    unfold roof at hr
                    cases hk : s.wk with
                    | first => rw [hk] at hf; cases hf
                    | place => rw [hk] at hr; exact hr
                    | way u lo hi =>
                      cases u with
                      | false => exact absurd hk (hu.wk lo hi)
                      | true =>
                        rw [hk] at hr hag
                        have hr : minO p.hi hi = some r := hr
                        have hag : (decide (w + (m - 1) * p.by_ < w + m * p.by_) && geO hi (w + m * p.by_)) = true := hag
                        rw [Bool.and_eq_true] at hag
                        cases hph : p.hi with
                        | none =>
                          rw [hph] at hr
                          have hr : hi = some r := hr
                          rw [hr] at hag
                          have := of_decide_eq_true hag.2
                          omega
                        | some i =>
                          rw [hph] at hr
                          cases hi with
                          | none => exact hr
                          | some j =>
                            have hr : some (if j < i then j else i) = some r := hr
                            injection hr with hr
                            have := of_decide_eq_true hag.2
                            split at hr
                            · omega
                            · rw [hr]
                  have hwle : w ≤ r := by
                    rw [hph] at hhas2
                    exact of_decide_eq_true hhas2.2
                  have u1 : mU s (rs ++ [⟨w, some m, p.by_⟩]) (w + m * p.by_) ≤ mU s rs w := filter_le fun q _ hq => free_mono hq
                  have r1 : mR s (w + m * p.by_) < mR s w := filter_lt (x := p) (fun q _ hq => geO_mono hq (by omega)) hmem hhas2.2 (by
                    rw [hph]
                    exact decide_eq_false (by omega))
                  exact runs_some hu hp n _ _ (by omega)
              · unfold manyOf at hmo
                rw [if_neg hm] at hmo
                injection hmo with hmo
                subst hmo
                cases hs : p.set with
                | true =>
                  have e2 : w + 1 * stepOf p w = p.by_ := by unfold stepOf; rw [made_set hs]; omega
                  rw [e2]
                  by_cases hfr : freeB rs w p = true
                  · have u1 : mU s (rs ++ [⟨w, some 1, stepOf p w⟩]) p.by_ < mU s rs w := filter_lt (x := p) (fun q _ hq => free_mono hq) hmem hfr (by
                      unfold freeB
                      simp)
                    have r1 := mR_le s p.by_
                    exact runs_some hu hp n _ _ (by omega)
                  · -- it comes back to where it was
                    obtain ⟨k, rfl⟩ : ∃ k, n = k + 1 := ⟨n - 1, by omega⟩
                    have hany : (rs ++ [(⟨w, some 1, stepOf p w⟩ : Rn)]).any (fun r => r.b == p.by_) = true := by
                      unfold freeB at hfr
                      rw [hs, Bool.true_and] at hfr
                      simp only [Bool.and_eq_true, Bool.not_eq_true', not_and, Bool.not_eq_false] at hfr
                      rw [List.any_append]
                      cases ha : (rs.any fun r => r.b == p.by_) with
                      | true => rfl
                      | false =>
                        have := hfr ha
                        have : p.by_ = w := by simpa using this
                        simp [this]
                    unfold runsO
                    split
                    · exact ⟨_, rfl⟩
                    · rw [hany, if_pos rfl]
                      exact ⟨_, rfl⟩
                | false =>
                  -- it falls, or is met once: not met again
                  exfalso
                  have e1 : w + (1 - 1) * stepOf p w = w := by simp
                  have e2 : w + 1 * stepOf p w = w + p.by_ := by unfold stepOf; rw [made_add hs]; omega
                  rw [e1, e2] at hag
                  have hm' : ¬ (0 < p.by_ ∧ notFirst s.wk = true) := by
                    intro h
                    exact hm (by rw [hs, h.2, decide_eq_true h.1]; rfl)
                  unfold againB at hag
                  cases hk : s.wk with
                  | first => rw [hk] at hag; cases hag
                  | place =>
                    have := hu.pl hk p hmem hs
                    exact hm' ⟨this, by rw [hk]; rfl⟩
                  | way u lo hi =>
                    cases u with
                    | false => exact absurd hk (hu.wk lo hi)
                    | true =>
                      rw [hk] at hag
                      have hag : (decide (w < w + p.by_) && geO hi (w + p.by_)) = true := hag
                      rw [Bool.and_eq_true] at hag
                      have := of_decide_eq_true hag.1
                      exact hm' ⟨by omega, by rw [hk]; rfl⟩
            · exact ⟨_, rfl⟩
theorem runs_all {s : St} (hu : Up s) (hp : Sep s.ps) (w : Int) : ∃ out, runsO s 26 [] w = some out := by
  refine runs_some hu hp 26 [] w ?_
  have := mU_le s [] w
  have := mR_le s w
  have := hu.four
  omega
end Pure

set_option linter.all false
set_option Elab.async false
set_option maxRecDepth 100000
set_option maxHeartbeats 1000000
/-! The plain law: a row and its turned one; short rows; the law's path. -/
namespace Pure
open PySem Mi Mir
theorem negO_some {o : Option Int} {i : Int} (h : negO o = some i) : o = some (-i) := by
  cases o with
  | none => cases h
  | some j =>
    have h : some (-j) = some i := h
    injection h with h
    rw [← h, Int.neg_neg]
theorem turn_hasB (p : Pc) (w : Int) : hasB p.turn.lo p.turn.hi (-w) = hasB p.lo p.hi w := hasB_neg p.lo p.hi w
theorem turnPs_cons (p : Pc) (r : List Pc) : turnPs (p :: r) = turnPs r ++ [p.turn] := by simp [turnPs]
theorem apart_turn : ∀ ps : List Pc, Apart ps → Apart (turnPs ps)
  | [], _ => True.intro
  | [p], _ => True.intro
  | p :: q :: r, h => by
    rw [turnPs_cons]
    refine apart_snoc _ _ (apart_turn (q :: r) h.2) fun x hx => ?_
    rw [turnPs_cons, List.getLast?_append] at hx
    cases hx
    obtain ⟨a, b, h1, h2, h3⟩ := h.1
    exact ⟨-b, -a, by show negO q.lo = _; rw [h2]; rfl, by show negO p.hi = _; rw [h1]; rfl, by omega⟩
theorem sep_turn {ps : List Pc} (h : Sep ps) : Sep (turnPs ps) := ⟨apart_turn ps h.apart, fun q hq i j h1 h2 => by
  obtain ⟨p, hp, rfl⟩ := List.mem_map.mp hq
  have := h.le p (List.mem_reverse.mp hp) (-j) (-i) (negO_some h2) (negO_some h1)
  omega⟩
theorem sep_of {ps : List Pc} (h : ChOk ps) : Sep ps := ⟨h.apart, fun q hq => (h.all q hq).le⟩
theorem pieceOf_turn {ps : List Pc} (h : Sep ps) (w : Int) : pieceOf (turnPs ps) (-w) = (pieceOf ps w).map Pc.turn := by
  cases hp : pieceOf ps w with
  | some p =>
    obtain ⟨hm, hw⟩ := pieceOf_mem hp
    have hs := sep_turn h
    exact piece_uniq hs.apart hs.le (List.mem_map.mpr ⟨p, List.mem_reverse.mpr hm, rfl⟩) (by rw [turn_hasB]; exact hw)
  | none =>
    unfold pieceOf at hp ⊢
    rw [List.find?_eq_none] at hp
    rw [Option.map_none, List.find?_eq_none]
    intro q hq
    obtain ⟨p, hp', rfl⟩ := List.mem_map.mp hq
    rw [turn_hasB]
    exact hp p (List.mem_reverse.mp hp')
theorem rise_no {s : St} (h : gdown s = false) : rise s = s := by unfold rise; rw [h]; rfl
theorem rise_ps {s : St} (h : gdown s = true) : (rise s).ps = turnPs s.ps := by
  unfold rise
  rw [if_pos h]
  split <;> rfl
theorem rise_met {s : St} (h : gdown s = true) (w : Int) : metI (rise s) (-w) = metI s w := by
  obtain ⟨ps, k⟩ := s
  unfold rise
  rw [if_pos h]
  cases k with
  | first => rfl
  | place => rfl
  | way u lo hi => exact hasB_neg lo hi w
theorem rise_cont {s : St} (h : gdown s = true) (a b : Int) : cont (rise s) (-a) (-b) = cont s a b := by
  obtain ⟨ps, k⟩ := s
  unfold rise
  rw [if_pos h]
  cases k with
  | first => rfl
  | place => rfl
  | way u lo hi =>
    cases u with
    | true => cases h
    | false =>
      show decide (-a < -b) = decide (b < a)
      by_cases hab : b < a
      · rw [decide_eq_true hab, decide_eq_true (by omega)]
      · rw [decide_eq_false hab, decide_eq_false (by omega)]
theorem sign_sq (s : St) (w : Int) : signI s * (signI s * w) = w := by
  unfold signI
  split <;> omega
theorem go_turn {s : St} (h : Sep s.ps) (v : Int) : goB (rise s) v = goB s (signI s * v) := by
  cases hg : gdown s with
  | false =>
    rw [rise_no hg]
    have : signI s * v = v := by unfold signI; rw [hg]; simp
    rw [this]
  | true =>
    have e : signI s * v = -v := by unfold signI; rw [hg]; simp
    rw [e]
    have e2 : v = -(-v) := by omega
    unfold goB
    rw [e2, rise_met hg, rise_ps hg, pieceOf_turn h]
    have e3 : -(-(-v)) = -v := by omega
    rw [e3]
    cases pieceOf s.ps (-v) <;> rfl
theorem nxt_turn {s : St} (h : Sep s.ps) (v : Int) : nxt (rise s) v = signI s * nxt s (signI s * v) := by
  cases hg : gdown s with
  | false =>
    rw [rise_no hg]
    have e : ∀ x, signI s * x = x := fun x => by unfold signI; rw [hg]; simp
    rw [e, e]
  | true =>
    have e : ∀ x, signI s * x = -x := fun x => by unfold signI; rw [hg]; simp
    rw [e, e]
    unfold nxt changedI
    have z := pieceOf_turn h (-v)
    rw [Int.neg_neg] at z
    rw [rise_ps hg, z]
    cases pieceOf s.ps (-v) with
    | none => show v = -(-v); omega
    | some p =>
      show (if p.set = true then -p.by_ else v + -p.by_) = -(if p.set = true then p.by_ else -v + p.by_)
      split <;> omega
theorem cont_turn {s : St} (a b : Int) : cont (rise s) a b = cont s (signI s * a) (signI s * b) := by
  cases hg : gdown s with
  | false =>
    rw [rise_no hg]
    have e : ∀ x, signI s * x = x := fun x => by unfold signI; rw [hg]; simp
    rw [e, e]
  | true =>
    have e : ∀ x, signI s * x = -x := fun x => by unfold signI; rw [hg]; simp
    rw [e, e, ← rise_cont hg, Int.neg_neg, Int.neg_neg]
theorem rch_turn {s : St} (h : Sep s.ps) {w v : Int} {n : Nat} (r : Rch (rise s) w n v) : Rch s (signI s * w) n (signI s * v) := by
  induction r with
  | refl => exact .refl
  | @step n v r g c ih =>
    have e : nxt s (signI s * v) = signI s * nxt (rise s) v := by rw [nxt_turn h, sign_sq]
    rw [go_turn h] at g
    rw [cont_turn, nxt_turn h, sign_sq] at c
    have := Rch.step ih g c
    rw [e] at this
    exact this
theorem rch_back {s : St} (h : Sep s.ps) {w v : Int} {n : Nat} (r : Rch s w n v) : Rch (rise s) (signI s * w) n (signI s * v) := by
  induction r with
  | refl => exact .refl
  | @step n v r g c ih =>
    have e : nxt (rise s) (signI s * v) = signI s * nxt s v := by rw [nxt_turn h, sign_sq]
    have g2 : goB (rise s) (signI s * v) = true := by rw [go_turn h, sign_sq]; exact g
    have c2 : cont (rise s) (signI s * v) (nxt (rise s) (signI s * v)) = true := by rw [cont_turn, e, sign_sq, sign_sq]; exact c
    have := Rch.step ih g2 c2
    rw [e] at this
    exact this
theorem ends_turn {s : St} (h : Sep s.ps) {w L : Int} {T : Nat} (e : Ends (rise s) (signI s * w) T L) : Ends s w T (signI s * L) := by
  rcases e with ⟨r, g⟩ | ⟨n, v, rfl, r, g, c, rfl⟩
  · have r2 := rch_turn h r
    rw [sign_sq] at r2
    rw [go_turn h] at g
    exact .inl ⟨r2, g⟩
  · have r2 := rch_turn h r
    rw [sign_sq] at r2
    rw [go_turn h] at g
    rw [cont_turn, nxt_turn h, sign_sq] at c
    exact .inr ⟨n, signI s * v, rfl, r2, g, c, by rw [nxt_turn h, sign_sq]⟩
theorem endless_turn {s : St} (h : Sep s.ps) {w : Int} (e : Endless (rise s) (signI s * w)) : Endless s w := fun n => by
  obtain ⟨v, r⟩ := e n
  have r2 := rch_turn h r
  rw [sign_sq] at r2
  exact ⟨_, r2⟩
theorem endless_back {s : St} (h : Sep s.ps) {w : Int} (e : Endless s w) : Endless (rise s) (signI s * w) := fun n => by
  obtain ⟨v, r⟩ := e n
  exact ⟨_, rch_back h r⟩
theorem sep_rise {s : St} (h : Sep s.ps) : Sep (rise s).ps := by
  cases hg : gdown s with
  | false => rw [rise_no hg]; exact h
  | true => rw [rise_ps hg]; exact sep_turn h
theorem up_rise {s : St} (h : StOk s) : Up (rise s) := by
  have hch := h.ch
  cases hg : gdown s with
  | false =>
    rw [rise_no hg]
    refine ⟨fun lo hi e => ?_, fun e p hp hs => ?_, hch.four⟩
    · unfold gdown at hg
      rw [e] at hg
      cases hg
    · unfold gdown at hg
      rw [e] at hg
      have hg : s.ps.any _ = false := hg
      rw [List.any_eq_false] at hg
      have := hg p hp
      rw [hs] at this
      have h0 := (hch.all p hp).add hs
      simp at this
      omega
  | true =>
    refine ⟨fun lo hi e => ?_, fun e p hp hs => ?_, ?_⟩
    · unfold rise at e
      rw [if_pos hg] at e
      split at e
      · cases e
      · rename_i hne
        exact hne _ _ _ e
    · rw [rise_ps hg] at hp
      obtain ⟨q, hq, rfl⟩ := List.mem_map.mp hp
      have hq := List.mem_reverse.mp hq
      have hs : q.set = false := hs
      have hk : s.wk = .place := by
        unfold rise at e
        rw [if_pos hg] at e
        split at e
        · cases e
        · exact e
      have ow := h.wk
      rw [hk] at ow
      have ow : OneWay s.ps := ow
      have h0 := (hch.all q hq).add hs
      show 0 < -q.by_
      rcases ow with ow | ow
      · unfold gdown at hg
        rw [hk] at hg
        have hg : s.ps.any _ = true := hg
        rw [List.any_eq_true] at hg
        obtain ⟨x, hx, hx2⟩ := hg
        simp at hx2
        have := ow x hx hx2.1
        omega
      · have := ow q hq hs
        omega
    · rw [rise_ps hg]
      simpa [turnPs] using hch.four
/-! ### short rows -/
theorem nodup_len : ∀ (n : Nat) (a : Int) (l : List Int), l.Nodup → (∀ x ∈ l, a ≤ x ∧ x < a + n) → l.length ≤ n
  | 0, a, l, _, hb => by
    cases l with
    | nil => exact Nat.le_refl _
    | cons x r =>
      have := hb x List.mem_cons_self
      omega
  | n + 1, a, l, hn, hb => by
    have ih := nodup_len n a (l.erase (a + n)) (hn.erase _) fun x hx => by
      have h1 := (List.Nodup.mem_erase_iff hn).mp hx
      have h2 := hb x h1.2
      have h3 := h1.1
      push_cast at h2
      omega
    by_cases hm : (a + n) ∈ l
    · rw [List.length_erase_of_mem hm] at ih
      omega
    · rw [List.erase_of_not_mem hm] at ih
      omega
theorem pts {s : St} {w : Int} {n : Nat} {v : Int} (h : Rch s w n v) (ne : ¬ Endless s w) : ∃ l : List Int, l.length = n ∧ l.Nodup ∧ ∀ x ∈ l, ∃ i, i < n ∧ Rch s w i x := by
  induction h with
  | refl => exact ⟨[], rfl, List.nodup_nil, fun x hx => by cases hx⟩
  | @step n v h g c ih =>
    obtain ⟨l, h1, h2, h3⟩ := ih
    refine ⟨l ++ [v], by simp [h1], ?_, fun x hx => ?_⟩
    · rw [List.nodup_append]
      refine ⟨h2, by simp, fun a ha b hb e => ?_⟩
      rw [List.mem_singleton.mp hb] at e
      subst e
      obtain ⟨i, hi, hr⟩ := h3 a ha
      exact ne (endless_of_twice hr h hi)
    · rcases List.mem_append.mp hx with hx | hx
      · obtain ⟨i, hi, hr⟩ := h3 x hx
        exact ⟨i, by omega, hr⟩
      · rw [List.mem_singleton.mp hx]
        exact ⟨n, by omega, h⟩
/-- a statement with small numbers -/
structure Sml (m : Int) (s : St) : Prop where
  hi : ∀ p ∈ s.ps, ∀ i, p.hi = some i → i ≤ 61
  add : ∀ p ∈ s.ps, p.set = false → p.by_ ≤ m
  set : ∀ p ∈ s.ps, p.set = true → -61 ≤ p.by_ ∧ p.by_ ≤ 61
  wk : ∀ u lo hi, s.wk = .way u lo hi → ∀ i, hi = some i → i ≤ 61
theorem far_endless {s : St} (hu : Up s) (hp : Sep s.ps) {m : Int} (hm : Sml m s) {v : Int} (hv : 61 < v) (g : goB s v = true) (c : cont s v (nxt s v) = true) {p : Pc} (h2 : pieceOf s.ps v = some p) (hs : p.set = false) : Endless s v := by
  obtain ⟨hmem, hhas⟩ := pieceOf_mem h2
  have hhas2 : leO p.lo v = true ∧ geO p.hi v = true := by simpa [hasB] using hhas
  have h1 : metI s v = true := by unfold goB at g; rw [Bool.and_eq_true] at g; exact g.1
  have ph : p.hi = none := by
    cases hph : p.hi with
    | none => rfl
    | some i =>
      have := hm.hi p hmem i hph
      rw [hph] at hhas2
      have := of_decide_eq_true hhas2.2
      omega
  have hb : 0 < p.by_ := by
    unfold cont at c
    rw [nxt_add h2, made_add hs] at c
    cases hk : s.wk with
    | first => rw [hk] at c; cases c
    | place => exact hu.pl hk p hmem hs
    | way u lo hi =>
      cases u with
      | false => exact absurd hk (hu.wk lo hi)
      | true =>
        rw [hk] at c
        have := of_decide_eq_true (show decide (v < v + p.by_) = true from c)
        omega
  have hf : notFirst s.wk = true := by
    unfold cont at c
    cases hk : s.wk with
    | first => rw [hk] at c; cases c
    | place => rfl
    | way u lo hi => rfl
  have hr : roof p s.wk = none := by
    unfold roof
    cases hk : s.wk with
    | first => exact ph
    | place => exact ph
    | way u lo hi =>
      cases u with
      | false => exact ph
      | true =>
        show minO p.hi hi = none
        rw [ph]
        show hi = none
        cases hi with
        | none => rfl
        | some i =>
          have := hm.wk true lo (some i) hk i rfl
          unfold metI at h1
          rw [hk] at h1
          have h1' : leO lo v = true ∧ geO (some i) v = true := by simpa [hasB] using h1
          have := of_decide_eq_true (show decide (v ≤ i) = true from h1'.2)
          omega
  intro n
  exact ⟨_, rise_run hu hp h1 h2 hs hb hf n fun i _ => roof_none hu hr h1 (by
    have : 0 ≤ (i : Int) * p.by_ := Int.mul_nonneg (by omega) (by omega)
    omega)⟩
theorem go_piece {s : St} {v : Int} (g : goB s v = true) : ∃ p, pieceOf s.ps v = some p := by
  unfold goB at g
  rw [Bool.and_eq_true] at g
  exact Option.isSome_iff_exists.mp g.2
theorem low_b {s : St} (hu : Up s) {m : Int} (hm : Sml m s) {w : Int} (hw : -61 ≤ w) {n : Nat} {v : Int} (h : Rch s w n v) : -61 ≤ v := by
  induction h with
  | refl => exact hw
  | @step n v h g c ih =>
    obtain ⟨p, hp⟩ := go_piece g
    obtain ⟨hmem, _⟩ := pieceOf_mem hp
    rw [nxt_add hp] at c ⊢
    cases hs : p.set with
    | true => rw [made_set hs]; exact (hm.set p hmem hs).1
    | false =>
      rw [made_add hs] at c ⊢
      have hb : 0 < p.by_ := by
        unfold cont at c
        cases hk : s.wk with
        | first => rw [hk] at c; cases c
        | place => exact hu.pl hk p hmem hs
        | way u lo hi =>
          cases u with
          | false => exact absurd hk (hu.wk lo hi)
          | true =>
            rw [hk] at c
            have := of_decide_eq_true (show decide (v < v + p.by_) = true from c)
            omega
      omega
theorem high_b {s : St} (hu : Up s) (hp : Sep s.ps) {m : Int} (hm : Sml m s) (h0 : 0 ≤ m) {w : Int} (hw : w ≤ 61) (ne : ¬ Endless s w) {n : Nat} {v : Int} (h : Rch s w n v) : v ≤ 61 + m := by
  cases h with
  | refl => omega
  | @step n v h g c =>
    obtain ⟨p, hpc⟩ := go_piece g
    obtain ⟨hmem, _⟩ := pieceOf_mem hpc
    rw [nxt_add hpc]
    cases hs : p.set with
    | true => rw [made_set hs]; have := (hm.set p hmem hs).2; omega
    | false =>
      rw [made_add hs]
      have := hm.add p hmem hs
      by_cases hv : 61 < v
      · exact absurd (fun k => by
          obtain ⟨u, hu', _⟩ := ((h.add (Classical.choose_spec (far_endless hu hp hm hv g c hpc hs k)))).pre k (by omega)
          exact ⟨u, hu'⟩) ne
      · omega
theorem short {s : St} (hu : Up s) (hp : Sep s.ps) {m : Int} (hm : Sml m s) (h0 : 0 ≤ m) {w : Int} (h1 : -61 ≤ w) (h2 : w ≤ 61) (ne : ¬ Endless s w) {n : Nat} {v : Int} (h : Rch s w n v) : n ≤ (123 + m).toNat := by
  obtain ⟨l, e1, e2, e3⟩ := pts h ne
  rw [← e1]
  refine nodup_len _ (-61) l e2 fun x hx => ?_
  obtain ⟨i, _, hr⟩ := e3 x hx
  have := low_b hu hm h1 hr
  have := high_b hu hp hm h0 h2 ne hr
  omega
theorem ends_short {s : St} (hu : Up s) (hp : Sep s.ps) {m : Int} (hm : Sml m s) (h0 : 0 ≤ m) {w : Int} (h1 : -61 ≤ w) (h2 : w ≤ 61) {T : Nat} {L : Int} (h : Ends s w T L) : T ≤ (123 + m).toNat + 1 := by
  have ne : ¬ Endless s w := fun e => h.not_endless e
  rcases h with ⟨r, g⟩ | ⟨n, v, rfl, r, _⟩
  · have := short hu hp hm h0 h1 h2 ne r
    omega
  · have := short hu hp hm h0 h1 h2 ne r
    omega
theorem sml_rise {m : Int} {s : St} (h : StSm m s) : Sml m (rise s) := by
  cases hg : gdown s with
  | false =>
    rw [rise_no hg]
    refine ⟨fun p hp i e => ?_, fun p hp hs => ((h.ps p hp).add hs).2, fun p hp hs => ?_, fun u lo hi e i hi' => ?_⟩
    · have := (h.ps p hp).hi i e; omega
    · have := (h.ps p hp).set hs; omega
    · have := (h.lo u lo hi e).2 i hi'; omega
  | true =>
    refine ⟨fun p hp i e => ?_, fun p hp hs => ?_, fun p hp hs => ?_, fun u lo hi e i hi' => ?_⟩
    · rw [rise_ps hg] at hp
      obtain ⟨q, hq, rfl⟩ := List.mem_map.mp hp
      have := (h.ps q (List.mem_reverse.mp hq)).lo (-i) (negO_some e)
      omega
    · rw [rise_ps hg] at hp
      obtain ⟨q, hq, rfl⟩ := List.mem_map.mp hp
      have := ((h.ps q (List.mem_reverse.mp hq)).add hs).1
      show -q.by_ ≤ m
      omega
    · rw [rise_ps hg] at hp
      obtain ⟨q, hq, rfl⟩ := List.mem_map.mp hp
      have := (h.ps q (List.mem_reverse.mp hq)).set hs
      show -61 ≤ -q.by_ ∧ -q.by_ ≤ 61
      omega
    · unfold rise at e
      rw [if_pos hg] at e
      split at e
      · rename_i u' lo' hi'' hk
        cases e
        have := (h.lo u' lo' hi'' hk).1 (-i) (negO_some hi')
        omega
      · rename_i hne
        exact absurd e (hne _ _ _)
/-- behind so many changes -/
def Bh (s : St) (w : Int) (n : Nat) (v : Int) : Prop := Rch s w n v ∨ ∃ k u, n = k + 1 ∧ Rch s w k u ∧ goB s u = true ∧ v = nxt s u
theorem Bh.det {s : St} {w : Int} {n : Nat} {v v' : Int} (h : Bh s w n v) (h' : Bh s w n v') : v = v' := by
  have key : ∀ {k u x}, Rch s w k u → Rch s w (k + 1) x → x = nxt s u := fun {k u x} h1 h2 => by
    cases h2 with
    | step h3 g c => rw [h1.det h3]
  rcases h with h | ⟨k, u, rfl, h, g, rfl⟩ <;> rcases h' with h' | ⟨k', u', e, h', g', rfl⟩
  · exact h.det h'
  · subst e
    exact key h' h
  · exact (key h h').symm
  · injection e with e
    subst e
    rw [h.det h']
/-- the law's path -/
def pathL (s : St) : Nat → List Int → Int → List Int
  | 0, path, _ => path
  | n + 1, path, w => if goB s w = true then (if cont s w (nxt s w) = true then pathL s n (path ++ [nxt s w]) (nxt s w) else path ++ [nxt s w]) else path
theorem path_ends {s : St} {w0 : Int} : ∀ (n N : Nat) (path : List Int) (w : Int) (T : Nat) (L : Int), Rch s w0 N w → path.length = N → Ends s w T L → T ≤ n → (∀ j v, (path ++ [w])[j]? = some v → Bh s w0 j v) → 
    ∃ l, pathL s n (path ++ [w]) w = path ++ [w] ++ l ∧ l.length = T ∧ (∀ d, (path ++ [w] ++ l).getLast? = some d → d = L) ∧ ∀ j v, (path ++ [w] ++ l)[j]? = some v → Bh s w0 j v
  | n, N, path, w, T, L, hr, hN, he, hT, hb => by
    rcases he with ⟨r, g⟩ | ⟨k, v, rfl, r, g, c, rfl⟩
    · cases T with
      | zero =>
        cases r
        refine ⟨[], ?_, rfl, fun d hd => ?_, by simpa using hb⟩
        · cases n with
          | zero => simp [pathL]
          | succ n => simp [pathL, g]
        · simp at hd; exact hd.symm
      | succ T =>
        obtain ⟨n, rfl⟩ : ∃ m, n = m + 1 := ⟨n - 1, by omega⟩
        obtain ⟨u, r1, r2⟩ := r.pre 1 (by omega)
        have al := r.alive (show 0 < T + 1 by omega) .refl
        have eu : u = nxt s w := by cases r1 with | step h3 _ _ => cases h3; rfl
        subst eu
        have hr1 : Rch s w0 (N + 1) (nxt s w) := .step hr al.1 al.2
        obtain ⟨l, e1, e2, e3, e4⟩ := path_ends n (N + 1) (path ++ [w]) (nxt s w) T L hr1 (by simp [hN]) (.inl ⟨by simpa using r2, g⟩) (by omega) (fun j v hv => by
          rw [List.getElem?_append] at hv
          split at hv
          · exact hb j v hv
          · rename_i hj
            have : j = N + 1 := by
              have := (List.getElem?_eq_some_iff.mp hv).1
              simp [hN] at this hj ⊢
              omega
            subst this
            have hv : some (nxt s w) = some v := by simpa [hN] using hv
            cases hv
            exact .inl hr1)
        refine ⟨nxt s w :: l, ?_, by simp [e2], ?_, ?_⟩
        · rw [pathL, if_pos al.1, if_pos al.2, e1]
          simp
        · intro d hd; exact e3 d (by simpa using hd)
        · intro j v hv; exact e4 j v (by simpa using hv)
    · cases k with
      | zero =>
        cases r
        obtain ⟨n, rfl⟩ : ∃ m, n = m + 1 := ⟨n - 1, by omega⟩
        refine ⟨[nxt s w], ?_, rfl, fun d hd => ?_, fun j v hv => ?_⟩
        · rw [pathL, if_pos g, if_neg (by rw [c]; simp)]
        · simp at hd; exact hd.symm
        · rw [List.getElem?_append] at hv
          split at hv
          · exact hb j v hv
          · rename_i hj
            have : j = N + 1 := by
              have := (List.getElem?_eq_some_iff.mp hv).1
              simp [hN] at this hj ⊢
              omega
            subst this
            have hv : some (nxt s w) = some v := by simpa [hN] using hv
            cases hv
            exact .inr ⟨N, w, rfl, hr, g, rfl⟩
      | succ k =>
        obtain ⟨n, rfl⟩ : ∃ m, n = m + 1 := ⟨n - 1, by omega⟩
        obtain ⟨u, r1, r2⟩ := r.pre 1 (by omega)
        have al := r.alive (show 0 < k + 1 by omega) .refl
        have eu : u = nxt s w := by cases r1 with | step h3 _ _ => cases h3; rfl
        subst eu
        have hr1 : Rch s w0 (N + 1) (nxt s w) := .step hr al.1 al.2
        obtain ⟨l, e1, e2, e3, e4⟩ := path_ends n (N + 1) (path ++ [w]) (nxt s w) (k + 1) (nxt s v) hr1 (by simp [hN]) (.inr ⟨k, v, rfl, by simpa using r2, g, c, rfl⟩) (by omega) (fun j v hv => by
          rw [List.getElem?_append] at hv
          split at hv
          · exact hb j v hv
          · rename_i hj
            have : j = N + 1 := by
              have := (List.getElem?_eq_some_iff.mp hv).1
              simp [hN] at this hj ⊢
              omega
            subst this
            have hv : some (nxt s w) = some v := by simpa [hN] using hv
            cases hv
            exact .inl hr1)
        refine ⟨nxt s w :: l, ?_, by simp [e2], ?_, ?_⟩
        · rw [pathL, if_pos al.1, if_pos al.2, e1]
          simp
        · intro d hd; exact e3 d (by simpa using hd)
        · intro j v hv; exact e4 j v (by simpa using hv)
theorem path_endless {s : St} : ∀ (n : Nat) (path : List Int) (w : Int), Endless s w → (pathL s n path w).length = path.length + n
  | 0, path, w, _ => rfl
  | n + 1, path, w, he => by
    obtain ⟨v, r⟩ := he 1
    have al := r.alive (show 0 < 1 by omega) .refl
    have he' : Endless s (nxt s w) := fun k => by
      obtain ⟨u, hu⟩ := he (1 + k)
      obtain ⟨x, r1, r2⟩ := hu.pre 1 (by omega)
      have ex : x = nxt s w := by cases r1 with | step h3 _ _ => cases h3; rfl
      subst ex
      exact ⟨u, by simpa using r2⟩
    rw [pathL, if_pos al.1, if_pos al.2, path_endless n _ _ he', List.length_append, List.length_singleton]
    omega
end Pure

set_option linter.all false
set_option Elab.async false
set_option maxRecDepth 100000
set_option maxHeartbeats 1000000
/-! The plain law: the public defs over changes and statements, of any data. -/
namespace Pure
open PySem Mi Mir
theorem ne_self {d : D} (h : SeqAt.shaped d = true) : dNe d d = some (.bool false) := by
  rw [dNeD h h, SeqAt.eqv_refl d (shaped_iff.mp h).1]
  rfl
theorem eq_self {d : D} (h : SeqAt.shaped d = true) : dEq d d = some (.bool true) := by
  rw [dEqD h h, SeqAt.eqv_refl d (shaped_iff.mp h).1]
theorem needst_ok {d : D} (hs : SeqAt.shaped d = true) (hf : fitsSt d = true) (μ : Sto) : g_need_statement [.d d] μ = .ok (.d .none) μ := by
  have ft := fits_statement_spec d hs μ
  rw [hf] at ft
  rw [show g_need_statement = fnOf 1 1 F_need_statement from rfl, fnOf1]
  simp [F_need_statement, ft, fin]
theorem needst_no {d : D} (hs : SeqAt.shaped d = true) (hf : fitsSt d = false) (μ : Sto) : g_need_statement [.d d] μ = .er ⟨"InvalidStatement", none⟩ μ := by
  have ft := fits_statement_spec d hs μ
  rw [hf] at ft
  rw [show g_need_statement = fnOf 1 1 F_need_statement from rfl, fnOf1]
  simp [F_need_statement, ft, fin]
theorem needw_d (d : D) (μ : Sto) : g_need_worth_d [.d d] μ = if wholeD d (-far) far = true then .ok (.d .none) μ else .er ⟨"InvalidWorth", none⟩ μ := by
  have w := whole_spec d (-far) far μ
  unfold far at w
  rw [show g_need_worth_d [.d d] μ = fnOf 2 2 F_need_worth [.d d, .d (.int (-1000000000000000000000000000000))] μ from rfl, fnOf2]
  cases h : wholeD d (-far) far with
  | true => unfold far at h; rw [h] at w; simp [F_need_worth, w, fin]
  | false => unfold far at h; rw [h] at w; simp [F_need_worth, w, fin]
theorem whole_far {w : Int} (h1 : -far ≤ w) (h2 : w ≤ far) : wholeD (.int w) (-far) far = true := by simp [wholeD, h1, h2]
theorem sh_psd (ps : List Pc) : SeqAt.shaped (.tuple (ps.map Pc.d)) = true := (sh_ps ps).shaped (by decide)
theorem sh_std (s : St) : SeqAt.shaped s.d = true := (sh_st s).shaped (by decide)
end Pure

set_option linter.all false
set_option Elab.async false
set_option maxRecDepth 100000
set_option maxHeartbeats 1000000
/-! The plain law: the program's runs and fates. -/
namespace Pure
open PySem Mi Mir
theorem filt_end (x y : Option Int) (ρ : Mi.Env) (hρ : ρ.length = 4) (μ : Sto) : lcL (tName 3) (eNotN (eVar 3)) (eVar 3) ρ [oD x, oD y] [] μ = .ok (.d (.list (match x, y with
    | none, none => [] | some a, none => [.int a] | none, some b => [.int b] | some a, some b => [.int a, .int b]))) μ := by
  cases x <;> cases y <;> simp [lcL, hρ]
theorem roof_spec (p : Pc) {k : Wk} (hk : ∀ lo hi, k ≠ .way false lo hi) (μ : Sto) : g_roof_of [.d p.d, .d k.d] μ = .ok (.d (oD (roof p k))) μ := by
  have f : ∀ b : D, fin μ.length (.rt (.d b) μ) = .ok (.d b) μ := fun b => x_fin _ _ _ rfl
  have i1 : dIx p.d (.int 1) = some (oD p.hi) := rfl
  have n0 : dNe (.list []) (.list []) = some (.bool false) := rfl
  have n1 : ∀ a, dNe (.list [.int a]) (.list []) = some (.bool true) := fun a => rfl
  have n2 : ∀ a b, dNe (.list [.int a, .int b]) (.list []) = some (.bool true) := fun a b => rfl
  have m1 : ∀ a, bMin1 [.list [.int a]] = some (.int a) := fun a => rfl
  have m2 : ∀ a b, bMin1 [.list [.int a, .int b]] = some (.int (if b < a then b else a)) := fun a b => rfl
  rw [show g_roof_of = fnOf 2 4 F_roof_of from rfl, fnOf2]
  unfold F_roof_of
  have fe := filt_end
  cases k with
  | first =>
    have i0 : dIx (Wk.d .first) (.int 0) = some (.str "first") := rfl
    have q : dEq (.str "first") (.str "up") = some (.bool false) := by kernel_rfl
    have e : roof p .first = p.hi := rfl
    rw [e]
    have fe := fe p.hi none
    cases hp : p.hi with
    | none => rw [hp] at i1 fe; simp at i1 fe; simp [i1, i0, q, items, wipeE, fe, n0, f]
    | some a => rw [hp] at i1 fe; simp at i1 fe; simp [i1, i0, q, items, wipeE, fe, n1, m1, f]
  | place =>
    have i0 : dIx (Wk.d .place) (.int 0) = some (.str "place") := rfl
    have q : dEq (.str "place") (.str "up") = some (.bool false) := by kernel_rfl
    have e : roof p .place = p.hi := rfl
    rw [e]
    have fe := fe p.hi none
    cases hp : p.hi with
    | none => rw [hp] at i1 fe; simp at i1 fe; simp [i1, i0, q, items, wipeE, fe, n0, f]
    | some a => rw [hp] at i1 fe; simp at i1 fe; simp [i1, i0, q, items, wipeE, fe, n1, m1, f]
  | way u lo hi =>
    cases u with
    | false => exact absurd rfl (hk lo hi)
    | true =>
      have i0 : dIx (Wk.d (.way true lo hi)) (.int 0) = some (.str (wayS true)) := rfl
      have i2 : dIx (Wk.d (.way true lo hi)) (.int 2) = some (oD hi) := rfl
      have q : dEq (.str (wayS true)) (.str "up") = some (.bool true) := by kernel_rfl
      have e : roof p (.way true lo hi) = minO p.hi hi := rfl
      rw [e]
      have fe := fe p.hi hi
      cases hp : p.hi with
      | none =>
        rw [hp] at i1 fe
        cases hi with
        | none => simp at i1 i2 fe; simp [i1, i0, i2, q, items, wipeE, fe, n0, minO, f]
        | some b => simp at i1 i2 fe; simp [i1, i0, i2, q, items, wipeE, fe, n1, m1, minO, f]
      | some a =>
        rw [hp] at i1 fe
        cases hi with
        | none => simp at i1 i2 fe; simp [i1, i0, i2, q, items, wipeE, fe, n1, m1, minO, f]
        | some b => simp at i1 i2 fe; simp [i1, i0, i2, q, items, wipeE, fe, n2, m2, minO, f]
theorem again_spec {k : Wk} (hk : ∀ lo hi, k ≠ .way false lo hi) (a b : Int) (μ : Sto) : g_again [.d k.d, .d (.int a), .d (.int b)] μ = .ok (.d (.bool (againB k a b))) μ := by
  have f : ∀ b : D, fin μ.length (.rt (.d b) μ) = .ok (.d b) μ := fun b => x_fin _ _ _ rfl
  rw [show g_again = fnOf 3 3 F_again from rfl, fnOf3]
  unfold F_again
  cases k with
  | first =>
    have i0 : dIx (Wk.d .first) (.int 0) = some (.str "first") := rfl
    have q : dEq (.str "first") (.str "up") = some (.bool false) := by kernel_rfl
    have q2 : dEq (.str "first") (.str "place") = some (.bool false) := by kernel_rfl
    simp [i0, q, q2, againB, f]
  | place =>
    have i0 : dIx (Wk.d .place) (.int 0) = some (.str "place") := rfl
    have q : dEq (.str "place") (.str "up") = some (.bool false) := by kernel_rfl
    have q2 : dEq (.str "place") (.str "place") = some (.bool true) := by kernel_rfl
    simp [i0, q, q2, againB, f]
  | way u lo hi =>
    cases u with
    | false => exact absurd rfl (hk lo hi)
    | true =>
      have i0 : dIx (Wk.d (.way true lo hi)) (.int 0) = some (.str (wayS true)) := rfl
      have i2 : dIx (Wk.d (.way true lo hi)) (.int 2) = some (oD hi) := rfl
      have q : dEq (.str (wayS true)) (.str "up") = some (.bool true) := by kernel_rfl
      by_cases h : a < b
      · cases hi with
        | none => simp at i2; simp [i0, i2, q, againB, geO, h, f]
        | some c => simp at i2; simp [i0, i2, q, againB, geO, h, f]
      · simp [i0, q, againB, h, f]
def rcond : EF := (eAnd (eCall g_in_walk (aCons (eVar 3) (aCons (eVar 1) aNil))) (eNotN (eCall g_piece_of (aCons (eVar 2) (aCons (eVar 1) aNil)))))
def rtail : SF := (sSeq (sAsg 4 (eOp dAdd (eVar 4) (eLst (aCons (eTup (aCons (eVar 1) (aCons (eVar 7) (aCons (eVar 6) aNil)))) aNil))))
    (sSeq (sIf (eIsN (eVar 7)) (sRet (eVar 4)) sNil)
    (sSeq (sIf (eNot (eCall g_again (aCons (eVar 3) (aCons (eOp dAdd (eVar 1) (eOp dMul (eOp dSub (eVar 7) (eInt 1)) (eVar 6))) (aCons (eOp dAdd (eVar 1) (eOp dMul (eVar 7) (eVar 6))) aNil))))) (sRet (eOp dAdd (eVar 4) (eLst (aCons (eTup (aCons (eOp dAdd (eVar 1) (eOp dMul (eVar 7) (eVar 6))) (aCons (eInt 0) (aCons (eInt 0) aNil)))) aNil)))) sNil)
    (sAsg 1 (eOp dAdd (eVar 1) (eOp dMul (eVar 7) (eVar 6)))))))
def rbody : SF := (sSeq (sIf (eOp dNe (eLc [9] (tName 9) (iSeq (eVar 4)) (eOp dEq (eOp dIx (eVar 9) (eInt 0)) (eVar 1)) (eVar 9)) (eLst aNil)) (sRet (eOp dAdd (eVar 4) (eLst (aCons (eTup (aCons (eVar 1) (aCons (eInt 0) (aCons (eInt 0) aNil)))) aNil)))) sNil)
    (sSeq (sAsg 5 (eCall g_piece_of (aCons (eVar 2) (aCons (eVar 1) aNil))))
    (sSeq (sAsg 6 (eOp dSub (eCall g_made (aCons (eVar 5) (aCons (eVar 1) aNil))) (eVar 1)))
    (sSeq (sAsg 7 (eInt 1))
    (sSeq (sIf (eAnd (eOp dEq (eOp dIx (eVar 5) (eInt 2)) (eStr "add")) (eAnd (eOp dGt (eVar 6) (eInt 0)) (eOp dNe (eOp dIx (eVar 3) (eInt 0)) (eStr "first")))) (sSeq (sAsg 8 (eCall g_roof_of (aCons (eVar 5) (aCons (eVar 3) aNil))))
    (sAsg 7 (eIf (eIsN (eVar 8)) eNon (eOp dAdd (eOp dDiv (eOp dSub (eVar 8) (eVar 1)) (eVar 6)) (eInt 1))))) sNil)
    rtail)))))
theorem runs_shape : F_runs_of = (sSeq (sTgt (Mi.tTup [(tName 2), (tName 3)]) (eVar 0))
    (sSeq (sAsg 4 (eLst aNil))
    (sSeq (sWhile 1000000 rcond rbody)
    (sRet (eOp dAdd (eVar 4) (eLst (aCons (eTup (aCons (eVar 1) (aCons (eInt 0) (aCons (eInt 0) aNil)))) aNil))))))) := rfl
/-- numbers that the machine multiplies -/
def Mid (x : Int) : Prop := -(10 ^ 33) ≤ x ∧ x ≤ 10 ^ 33
theorem mul_mid {a b : Int} (ha : a.natAbs < 2 ^ 1000) (hb : b.natAbs < 2 ^ 1000) : dMul (.int a) (.int b) = some (.int (a * b)) := x_mulI (.inr ⟨ha, hb⟩)
theorem small_nat {x : Int} (h1 : -(10 ^ 40) ≤ x) (h2 : x ≤ 10 ^ 40) : x.natAbs < 2 ^ 1000 := by
  have h3 : x.natAbs ≤ 10 ^ 40 := by omega
  exact Nat.lt_of_le_of_lt h3 (by decide)
theorem addRn (rs : List Rn) (r : Rn) (h : rs.length ≤ 1000) : dAdd (.list (rs.map Rn.d)) (.list [r.d]) = some (.list ((rs ++ [r]).map Rn.d)) := by
  rw [List.map_append]
  exact if_pos (by rw [List.length_map]; simp; unfold LIM; omega)
theorem sh_rn (r : Rn) : Sh 1 r.d := Sh.tup (mem3' (sh_int _) (sh_o _) (sh_int _))
theorem starts_lc (rs : List Rn) (w : Int) (ρ : Mi.Env) (hρ : ρ.length = 10) (h1 : ρ[1]? = some (some (.d (.int w)))) (μ : Sto) : lcL (tName 9) (eOp dEq (eOp dIx (eVar 9) (eInt 0)) (eVar 1)) (eVar 9) ρ (rs.map Rn.d) [] μ = .ok (.d (.list ((rs.filter fun r => r.b == w).map Rn.d))) μ := by
  have z : ∀ (l : List Rn) (acc : List D), lcL (tName 9) (eOp dEq (eOp dIx (eVar 9) (eInt 0)) (eVar 1)) (eVar 9) ρ (l.map Rn.d) acc μ = .ok (.d (.list (acc ++ (l.filter fun r => r.b == w).map Rn.d))) μ := by
    intro l
    induction l with
    | nil => intro acc; simp [lcL]
    | cons r t ih =>
      intro acc
      have i0 : dIx r.d (.int 0) = some (.int r.b) := rfl
      have h1' : (ρ.set 9 (some (.d r.d)))[1]? = some (some (.d (.int w))) := by rw [List.getElem?_set_ne (by decide)]; exact h1
      have h9 : (ρ.set 9 (some (.d r.d)))[9]? = some (some (.d r.d)) := by rw [List.getElem?_set_self (by omega)]
      rw [List.map_cons]
      cases hb : (r.b == w) with
      | true =>
        unfold lcL
        simp only [x_tName, x_eOp, x_eVar, x_eInt, h1', h9, R.bind_ok, view_d, Option.bind_some, i0, dEqI, hb, Option.map_some, ofO_some, ih, List.filter_cons, if_true]
        simp
      | false =>
        unfold lcL
        simp only [x_tName, x_eOp, x_eVar, x_eInt, h1', h9, R.bind_ok, view_d, Option.bind_some, i0, dEqI, hb, Option.map_some, ofO_some, ih, List.filter_cons, Bool.false_eq_true, if_false]
  exact z rs []
theorem ne_nil {l : List D} {n : Nat} (h : ∀ x ∈ l, Sh n x) (hn : n ≤ 60) : dNe (.list l) (.list []) = some (.bool (!l.isEmpty)) := by
  rw [dNeD ((Sh.lst h).shaped (by omega)) rfl, eqv_nilL]
theorem starts_ne (rs : List Rn) (w : Int) : dNe (.list ((rs.filter fun r => r.b == w).map Rn.d)) (.list []) = some (.bool (rs.any fun r => r.b == w)) := by
  rw [ne_nil (n := 1) (fun x hx => by obtain ⟨r, _, rfl⟩ := List.mem_map.mp hx; exact sh_rn r) (by decide)]
  congr 2
  induction rs with
  | nil => rfl
  | cons r t ih =>
    rw [List.filter_cons, List.any_cons]
    cases hb : (r.b == w) with
    | true => rfl
    | false => simpa using ih
structure Bnd (s : St) : Prop where
  hi : ∀ p ∈ s.ps, ∀ i, p.hi = some i → -far ≤ i ∧ i ≤ far
  by_ : ∀ p ∈ s.ps, -far ≤ p.by_ ∧ p.by_ ≤ far
  wk : ∀ u lo hi, s.wk = .way u lo hi → ∀ i, hi = some i → -far ≤ i ∧ i ≤ far
theorem roof_bnd {s : St} (hb : Bnd s) {p : Pc} (hp : p ∈ s.ps) {r : Int} (h : roof p s.wk = some r) : -far ≤ r ∧ r ≤ far := by
  unfold roof at h
  split at h
  · rename_i lo hi hk
    have b1 := hb.hi p hp
    have b2 := hb.wk true lo hi hk
    cases hph : p.hi with
    | none => rw [hph] at h; exact b2 r h
    | some i =>
      rw [hph] at h
      cases hi with
      | none => cases h; exact b1 _ hph
      | some j =>
        have h : some (if j < i then j else i) = some r := h
        injection h with h
        have := b1 i hph
        have := b2 j rfl
        split at h <;> omega
  · exact hb.hi p hp r h
theorem ne_first (k : Wk) : ∃ x, dIx k.d (.int 0) = some (.str x) ∧ dNe (.str x) (.str "first") = some (.bool (notFirst k)) := by
  cases k with
  | first => exact ⟨"first", rfl, by kernel_rfl⟩
  | place => exact ⟨"place", rfl, by kernel_rfl⟩
  | way u lo hi => exact ⟨wayS u, rfl, by cases u <;> kernel_rfl⟩
theorem rn_d (w : Int) (m : Option Int) (st : Int) : PyData.tuple [.int w, oD m, .int st] = (Rn.mk w m st).d := rfl
theorem rn_f (w : Int) : PyData.tuple [.int w, .int 0, .int 0] = (Rn.fin w).d := rfl
/-- the end of a turn -/
theorem rtail_ok {s : St} (hu : Up s) {rs : List Rn} (hl : rs.length ≤ 900) {w st : Int} {m : Option Int} (hm : ∀ i, m = some i → (i.natAbs < 2 ^ 1000 ∧ (i - 1).natAbs < 2 ^ 1000)) (hst : st.natAbs < 2 ^ 1000) (x0 x2 x5 x8 x9 : Option W) (μ : Sto) :
    rtail [x0, some (.d (.int w)), x2, some (.d s.wk.d), some (.d (.list (rs.map Rn.d))), x5, some (.d (.int st)), some (.d (oD m)), x8, x9] μ =
      match m with
      | none => .rt (.d (.list ((rs ++ [(⟨w, none, st⟩ : Rn)]).map Rn.d))) μ
      | some i => if againB s.wk (w + (i - 1) * st) (w + i * st) = true then .nx [x0, some (.d (.int (w + i * st))), x2, some (.d s.wk.d), some (.d (.list ((rs ++ [(⟨w, some i, st⟩ : Rn)]).map Rn.d))), x5, some (.d (.int st)), some (.d (oD (some i))), x8, x9] μ
          else .rt (.d (.list ((rs ++ [(⟨w, some i, st⟩ : Rn)] ++ [Rn.fin (w + i * st)]).map Rn.d))) μ := by
  unfold rtail
  rw [x_sSeq, x_sAsg]
  simp only [x_eOp, x_eLst, x_eTup, x_aCons, x_aNil, x_eVar, List.getElem?_cons_zero, List.getElem?_cons_succ, R.bind_ok, asDs_cons, asDs_nil, Option.map_some, ofO_some, view_d, Option.bind_some, rn_d, addRn rs ⟨w, m, st⟩ (by omega), R.bindS_ok, List.set_cons_succ, List.set_cons_zero]
  cases m with
  | none =>
    rw [x_sSeq, x_sIf]
    simp only [x_eIsN, x_eVar, List.getElem?_cons_zero, List.getElem?_cons_succ, R.bind_ok, oD_none, x_isN1, RS.test_ok, if_true, x_sRet, R.bindS_ok]
  | some i =>
    obtain ⟨h1, h2⟩ := hm i rfl
    have m1 := mul_mid h2 hst
    have m2 := mul_mid h1 hst
    have ag := again_spec hu.wk (w + (i - 1) * st) (w + i * st) μ
    rw [x_sSeq, x_sIf]
    simp only [x_eIsN, x_eVar, List.getElem?_cons_zero, List.getElem?_cons_succ, R.bind_ok, oD_some, x_isN2, RS.test_ok, Bool.false_eq_true, if_false, x_sNil]
    rw [x_sSeq, x_sIf]
    simp only [x_eNot, x_eCall, x_eOp, x_aCons, x_aNil, x_eVar, x_eInt, List.getElem?_cons_zero, List.getElem?_cons_succ, R.bind_ok, view_d, Option.bind_some, x_subI, Option.map_some, ofO_some, m1, m2, x_addI, ag, R.test_ok]
    cases ha : againB s.wk (w + (i - 1) * st) (w + i * st) with
    | true =>
      simp only [Bool.not_true, RS.test_ok, Bool.false_eq_true, if_false, if_true, x_sNil, x_sAsg, x_eOp, x_eVar, List.getElem?_cons_zero, List.getElem?_cons_succ, R.bind_ok, view_d, Option.bind_some, m2, Option.map_some, ofO_some, x_addI, R.bindS_ok, List.set_cons_succ, List.set_cons_zero]
    | false =>
      have ad := addRn (rs ++ [(⟨w, some i, st⟩ : Rn)]) (Rn.fin (w + i * st)) (by simp; omega)
      simp only [Bool.not_false, RS.test_ok, Bool.false_eq_true, if_false, if_true, x_sRet, x_eOp, x_eLst, x_eTup, x_aCons, x_aNil, x_eVar, x_eInt, List.getElem?_cons_zero, List.getElem?_cons_succ, R.bind_ok, view_d, Option.bind_some, m2, Option.map_some, ofO_some, x_addI, asDs_cons, asDs_nil, rn_f, ad, R.bindS_ok]
theorem whileN_go (c : EF) (B : SF) (n : Nat) (ρ : Mi.Env) (μ : Sto) : whileN c B (n + 1) ρ μ = RS.test (c ρ μ) fun b μ1 => if b = true then (match B ρ μ1 with
      | .nx ρ2 μ2 => whileN c B n ρ2 μ2
      | .ct ρ2 μ2 => whileN c B n ρ2 μ2
      | .bk ρ2 μ2 => .nx ρ2 μ2
      | .rt w μ2 => .rt w μ2
      | .er x μ2 => .er x μ2
      | .no => .no) else .nx ρ μ1 := rfl
theorem rc_ok {s : St} (x0 x4 x5 x6 x7 x8 x9 : Option W) (w : Int) (μ : Sto) : rcond [x0, some (.d (.int w)), some (.d (.tuple (s.ps.map Pc.d))), some (.d s.wk.d), x4, x5, x6, x7, x8, x9] μ = .ok (.d (.bool (if inWalk s.wk w = true then pieceOf s.ps w else none).isSome)) μ := by
  have iw := in_walk_spec s.wk w μ
  have po := piece_of_spec s.ps w μ
  unfold rcond
  cases hi : inWalk s.wk w with
  | false =>
    rw [hi] at iw
    simp [iw]
  | true =>
    rw [hi] at iw
    cases hp : pieceOf s.ps w with
    | none => rw [hp] at po; simp [iw, po, pD]
    | some p =>
      rw [hp] at po
      have nn : isNonW (.d p.d) = false := rfl
      simp [iw, po, pD, nn]
def rfirst (G : SF) : SF := (sSeq (sIf (eOp dNe (eLc [9] (tName 9) (iSeq (eVar 4)) (eOp dEq (eOp dIx (eVar 9) (eInt 0)) (eVar 1)) (eVar 9)) (eLst aNil)) (sRet (eOp dAdd (eVar 4) (eLst (aCons (eTup (aCons (eVar 1) (aCons (eInt 0) (aCons (eInt 0) aNil)))) aNil)))) sNil) G)
def rmidF (G : SF) : SF := (sSeq (sAsg 5 (eCall g_piece_of (aCons (eVar 2) (aCons (eVar 1) aNil))))
    (sSeq (sAsg 6 (eOp dSub (eCall g_made (aCons (eVar 5) (aCons (eVar 1) aNil))) (eVar 1)))
    (sSeq (sAsg 7 (eInt 1))
    (sSeq (sIf (eAnd (eOp dEq (eOp dIx (eVar 5) (eInt 2)) (eStr "add")) (eAnd (eOp dGt (eVar 6) (eInt 0)) (eOp dNe (eOp dIx (eVar 3) (eInt 0)) (eStr "first")))) (sSeq (sAsg 8 (eCall g_roof_of (aCons (eVar 5) (aCons (eVar 3) aNil))))
    (sAsg 7 (eIf (eIsN (eVar 8)) eNon (eOp dAdd (eOp dDiv (eOp dSub (eVar 8) (eVar 1)) (eVar 6)) (eInt 1))))) sNil)
    G))))
theorem rbody_eq : rbody = rfirst (rmidF rtail) := rfl
theorem rfirst_ok {rs : List Rn} (hl : rs.length ≤ 900) (w : Int) (x0 x2 x3 x5 x6 x7 x8 x9 : Option W) (μ : Sto) (G : SF) : rfirst G [x0, some (.d (.int w)), x2, x3, some (.d (.list (rs.map Rn.d))), x5, x6, x7, x8, x9] μ =
    if rs.any (fun r => r.b == w) = true then .rt (.d (.list ((rs ++ [Rn.fin w]).map Rn.d))) μ else G [x0, some (.d (.int w)), x2, x3, some (.d (.list (rs.map Rn.d))), x5, x6, x7, x8, x9] μ := by
  have sn := starts_ne rs w
  have sl := starts_lc rs w
  unfold rfirst
  rw [x_sSeq, x_sIf, x_eOp, x_eLc, x_iSeq]
  simp only [x_eVar, List.getElem?_cons_zero, List.getElem?_cons_succ, R.bind_ok, items, ofO_some]
  rw [sl _ (by simp [wipeE]) (by simp [wipeE])]
  simp only [x_eLst, x_aNil, R.bind_ok, asDs_nil, Option.map_some, ofO_some, view_d, Option.bind_some, sn, RS.test_ok]
  cases ha : (rs.any fun r => r.b == w) with
  | true =>
    simp only [if_true, x_sRet, x_eOp, x_eLst, x_eTup, x_aCons, x_aNil, x_eVar, x_eInt, List.getElem?_cons_zero, List.getElem?_cons_succ, R.bind_ok, asDs_cons, asDs_nil, Option.map_some, ofO_some, view_d, Option.bind_some, rn_f, addRn rs (Rn.fin w) (by omega), R.bindS_ok]
  | false =>
    simp only [Bool.false_eq_true, if_false, x_sNil]
theorem rmid_ok {s : St} (hu : Up s) {p : Pc} {w : Int} (hp : pieceOf s.ps w = some p) (hby : p.by_ ≤ far) (x0 x4 x5 x6 x7 x8 x9 : Option W) (μ : Sto) (G : SF) : rmidF G [x0, some (.d (.int w)), some (.d (.tuple (s.ps.map Pc.d))), some (.d s.wk.d), x4, x5, x6, x7, x8, x9] μ =
    G [x0, some (.d (.int w)), some (.d (.tuple (s.ps.map Pc.d))), some (.d s.wk.d), x4, some (.d p.d), some (.d (.int (stepOf p w))), some (.d (oD (manyOf s p w))), (if (!p.set && (decide (0 < p.by_) && notFirst s.wk)) = true then some (.d (oD (roof p s.wk))) else x8), x9] μ := by
  have po := piece_of_spec s.ps w μ
  rw [hp] at po
  have md2 : g_made [.d p.d, .d (.int w)] μ = .ok (.d (.int (made (some p) w))) μ := made_spec (some p) w μ
  have po2 : g_piece_of [.d (.tuple (s.ps.map Pc.d)), .d (.int w)] μ = .ok (.d p.d) μ := po
  have i2 := ix2d p
  have q := eq_add p.set
  obtain ⟨x, ix, nx⟩ := ne_first s.wk
  have rf := roof_spec p hu.wk μ
  unfold rmidF
  rw [x_sSeq, x_sAsg]
  simp only [x_eCall, x_aCons, x_aNil, x_eVar, List.getElem?_cons_zero, List.getElem?_cons_succ, R.bind_ok, po2, R.bindS_ok, List.set_cons_succ, List.set_cons_zero]
  rw [x_sSeq, x_sAsg]
  simp only [x_eOp, x_eCall, x_aCons, x_aNil, x_eVar, List.getElem?_cons_zero, List.getElem?_cons_succ, R.bind_ok, md2, view_d, Option.bind_some, x_subI, Option.map_some, ofO_some, R.bindS_ok, List.set_cons_succ, List.set_cons_zero]
  rw [show made (some p) w - w = stepOf p w from rfl]
  rw [x_sSeq, x_sAsg]
  simp only [x_eInt, R.bindS_ok, List.set_cons_succ, List.set_cons_zero]
  rw [x_sSeq, x_sIf]
  unfold manyOf
  cases hs : p.set with
  | true =>
    rw [hs] at i2 q
    simp only [x_eAnd, x_eOp, x_eVar, x_eInt, x_eStr, List.getElem?_cons_zero, List.getElem?_cons_succ, R.bind_ok, view_d, Option.bind_some, i2, Option.map_some, ofO_some, q, Bool.not_true, R.test_ok, Bool.false_eq_true, if_false, RS.test_ok, x_sNil, Bool.false_and, oD_some]
  | false =>
    rw [hs] at i2 q
    have est : stepOf p w = p.by_ := by unfold stepOf; rw [made_add hs]; omega
    by_cases hb0 : 0 < p.by_
    · cases hnf : notFirst s.wk with
      | false =>
        rw [hnf] at nx
        simp only [x_eAnd, x_eOp, x_eVar, x_eInt, x_eStr, List.getElem?_cons_zero, List.getElem?_cons_succ, R.bind_ok, view_d, Option.bind_some, i2, Option.map_some, ofO_some, q, Bool.not_false, R.test_ok, if_true, x_gtI, est, hb0, decide_true, ix, nx, RS.test_ok, Bool.false_eq_true, if_false, x_sNil, Bool.and_false, oD_some]
      | true =>
        rw [hnf] at nx
        simp only [x_eAnd, x_eOp, x_eVar, x_eInt, x_eStr, List.getElem?_cons_zero, List.getElem?_cons_succ, R.bind_ok, view_d, Option.bind_some, i2, Option.map_some, ofO_some, q, Bool.not_false, R.test_ok, if_true, x_gtI, est, hb0, decide_true, ix, nx, RS.test_ok, Bool.and_true]
        rw [x_sSeq, x_sAsg]
        simp only [x_eCall, x_aCons, x_aNil, x_eVar, List.getElem?_cons_zero, List.getElem?_cons_succ, R.bind_ok, rf, R.bindS_ok, List.set_cons_succ, List.set_cons_zero]
        cases hr : roof p s.wk with
        | none =>
          simp only [x_sAsg, x_eIf, x_eIsN, x_eVar, List.getElem?_cons_zero, List.getElem?_cons_succ, R.bind_ok, oD_none, x_isN1, R.test_ok, if_true, x_eNon, R.bindS_ok, List.set_cons_succ, List.set_cons_zero, Option.map_none]
        | some r =>
          have dv := x_divI (a := r - w) hb0 (Int.lt_of_le_of_lt hby (by decide))
          simp only [x_sAsg, x_eIf, x_eIsN, x_eVar, List.getElem?_cons_zero, List.getElem?_cons_succ, R.bind_ok, oD_some, x_isN2, R.test_ok, Bool.false_eq_true, if_false, x_eOp, x_eInt, view_d, Option.bind_some, x_subI, Option.map_some, ofO_some, dv, x_addI, R.bindS_ok, List.set_cons_succ, List.set_cons_zero]
    · simp only [x_eAnd, x_eOp, x_eVar, x_eInt, x_eStr, List.getElem?_cons_zero, List.getElem?_cons_succ, R.bind_ok, view_d, Option.bind_some, i2, Option.map_some, ofO_some, q, Bool.not_false, R.test_ok, if_true, x_gtI, est, hb0, decide_false, Bool.false_eq_true, if_false, RS.test_ok, x_sNil, Bool.false_and, Bool.and_false, oD_some]
theorem many_bnd {s : St} (hb : Bnd s) {p : Pc} {w : Int} (hmem : p ∈ s.ps) (hw1 : -(10 ^ 32) ≤ w) (hw2 : w ≤ 10 ^ 32) : ∀ i, manyOf s p w = some i → i.natAbs < 2 ^ 1000 ∧ (i - 1).natAbs < 2 ^ 1000 := fun i hi => by
  have hf : far = 10 ^ 30 := rfl
  unfold manyOf at hi
  split at hi
  · rename_i hm
    simp only [Bool.and_eq_true, Bool.not_eq_true', decide_eq_true_eq] at hm
    cases hr : roof p s.wk with
    | none => rw [hr] at hi; cases hi
    | some r =>
      rw [hr, Option.map_some] at hi
      injection hi with hi
      have rb := roof_bnd hb hmem hr
      have d1 : ((r - w) / p.by_).natAbs ≤ (r - w).natAbs := Int.natAbs_ediv_le_natAbs _ _
      constructor
      · refine small_nat ?_ ?_ <;> omega
      · refine small_nat ?_ ?_ <;> omega
  · cases hi
    exact ⟨by decide, by decide⟩
theorem step_bnd {s : St} (hb : Bnd s) {p : Pc} {w : Int} (hmem : p ∈ s.ps) (hw1 : -(10 ^ 32) ≤ w) (hw2 : w ≤ 10 ^ 32) : (stepOf p w).natAbs < 2 ^ 1000 := by
  have hf : far = 10 ^ 30 := rfl
  have hby := hb.by_ p hmem
  have : stepOf p w = p.by_ ∨ stepOf p w = p.by_ - w := by
    unfold stepOf
    cases hs : p.set with
    | true => rw [made_set hs]; exact .inr rfl
    | false => rw [made_add hs]; exact .inl (by omega)
  refine small_nat ?_ ?_ <;> omega
theorem next_bnd {s : St} (hu : Up s) (hb : Bnd s) {p : Pc} {w m : Int} (hmem : p ∈ s.ps) (hw1 : -(10 ^ 32) ≤ w) (hw2 : w ≤ 10 ^ 32) (hm : manyOf s p w = some m) (hag : againB s.wk (w + (m - 1) * stepOf p w) (w + m * stepOf p w) = true) : -(10 ^ 32) ≤ w + m * stepOf p w ∧ w + m * stepOf p w ≤ 10 ^ 32 := by
  have hf : far = 10 ^ 30 := rfl
  have hby := hb.by_ p hmem
  unfold manyOf at hm
  split at hm
  · rename_i hm2
    simp only [Bool.and_eq_true, Bool.not_eq_true', decide_eq_true_eq] at hm2
    have est : stepOf p w = p.by_ := by unfold stepOf; rw [made_add hm2.1]; omega
    cases hr : roof p s.wk with
    | none => rw [hr] at hm; cases hm
    | some r =>
      rw [hr, Option.map_some] at hm
      injection hm with hm
      have rb := roof_bnd hb hmem hr
      rw [est, ← hm, Int.add_mul, Int.one_mul]
      have h3 := Int.emod_add_mul_ediv (r - w) p.by_
      have h4 := Int.emod_lt_of_pos (r - w) hm2.2.1
      have h5 := Int.emod_nonneg (r - w) (show p.by_ ≠ 0 by omega)
      rw [Int.mul_comm] at h3
      omega
  · rename_i hm2
    cases hm
    have e1 : w + 1 * stepOf p w = made (some p) w := by unfold stepOf; omega
    rw [e1] at hag ⊢
    cases hs : p.set with
    | true => rw [made_set hs]; omega
    | false =>
      exfalso
      have e0 : w + (1 - 1) * stepOf p w = w := by simp
      rw [e0, made_add hs] at hag
      unfold againB at hag
      cases hk : s.wk with
      | first => rw [hk] at hag; cases hag
      | place =>
        have := hu.pl hk p hmem hs
        exact hm2 (by rw [hs, hk, decide_eq_true this]; rfl)
      | way u lo hi =>
        cases u with
        | false => exact absurd hk (hu.wk lo hi)
        | true =>
          rw [hk] at hag
          have hag : (decide (w < w + p.by_) && geO hi (w + p.by_)) = true := hag
          rw [Bool.and_eq_true] at hag
          have := of_decide_eq_true hag.1
          exact hm2 (by rw [hs, hk, decide_eq_true (show 0 < p.by_ by omega)]; rfl)
/-- the state of the loop -/
def rst (s : St) (x0 : Option W) (w : Int) (rs : List Rn) (x5 x6 x7 x8 x9 : Option W) : Mi.Env := [x0, some (.d (.int w)), some (.d (.tuple (s.ps.map Pc.d))), some (.d s.wk.d), some (.d (.list (rs.map Rn.d))), x5, x6, x7, x8, x9]
theorem while_runs {s : St} (hu : Up s) (hb : Bnd s) (x0 : Option W) (μ : Sto) : ∀ (n : Nat) (rs : List Rn) (w : Int) (out : List Rn) (x5 x6 x7 x8 x9 : Option W) (N : Nat), runsO s n rs w = some out → rs.length + n ≤ 900 → -(10 ^ 32) ≤ w → w ≤ 10 ^ 32 → n ≤ N →
    (∃ w' rs' y5 y6 y7 y8 y9, whileN rcond rbody N (rst s x0 w rs x5 x6 x7 x8 x9) μ = .nx (rst s x0 w' rs' y5 y6 y7 y8 y9) μ ∧ out = rs' ++ [Rn.fin w'] ∧ rs'.length ≤ 900) ∨
    whileN rcond rbody N (rst s x0 w rs x5 x6 x7 x8 x9) μ = .rt (.d (.list (out.map Rn.d))) μ := by
  intro n
  induction n with
  | zero => intro rs w out x5 x6 x7 x8 x9 N e; cases e
  | succ n ih =>
    intro rs w out x5 x6 x7 x8 x9 N e hl hw1 hw2 hN
    obtain ⟨N, rfl⟩ : ∃ k, N = k + 1 := ⟨N - 1, by omega⟩
    have hcd : rcond (rst s x0 w rs x5 x6 x7 x8 x9) μ = _ := rc_ok x0 _ x5 x6 x7 x8 x9 w μ
    rw [whileN_go, hcd]
    unfold runsO at e
    cases hc : (if inWalk s.wk w = true then pieceOf s.ps w else none) with
    | none =>
      rw [hc] at e
      cases e
      refine .inl ⟨w, rs, x5, x6, x7, x8, x9, ?_, rfl, by omega⟩
      simp
    | some p =>
      rw [hc] at e
      dsimp only at e
      have hp : pieceOf s.ps w = some p := by
        split at hc
        · exact hc
        · cases hc
      obtain ⟨hmem, hhas⟩ := pieceOf_mem hp
      have t1 : ∀ G, rfirst G (rst s x0 w rs x5 x6 x7 x8 x9) μ = if rs.any (fun r => r.b == w) = true then .rt (.d (.list ((rs ++ [Rn.fin w]).map Rn.d))) μ else G (rst s x0 w rs x5 x6 x7 x8 x9) μ := fun G => rfirst_ok (by omega) w x0 _ _ x5 x6 x7 x8 x9 μ G
      have t2 : ∀ G, rmidF G (rst s x0 w rs x5 x6 x7 x8 x9) μ = G (rst s x0 w rs (some (.d p.d)) (some (.d (.int (stepOf p w)))) (some (.d (oD (manyOf s p w)))) (if (!p.set && (decide (0 < p.by_) && notFirst s.wk)) = true then some (.d (oD (roof p s.wk))) else x8) x9) μ := fun G => rmid_ok hu hp (hb.by_ p hmem).2 x0 _ x5 x6 x7 x8 x9 μ G
      simp only [Option.isSome_some, RS.test_ok, if_true]
      rw [rbody_eq, t1]
      by_cases ha : (rs.any fun r => r.b == w) = true
      · rw [if_pos ha] at e ⊢
        cases e
        exact .inr rfl
      · rw [if_neg ha] at e ⊢
        rw [t2]
        generalize (if (!p.set && (decide (0 < p.by_) && notFirst s.wk)) = true then some (W.d (oD (roof p s.wk))) else x8) = x8'
        have t3 : rtail (rst s x0 w rs (some (.d p.d)) (some (.d (.int (stepOf p w)))) (some (.d (oD (manyOf s p w)))) x8' x9) μ = _ := rtail_ok hu (by omega) (many_bnd hb hmem hw1 hw2) (step_bnd hb hmem hw1 hw2) x0 _ _ _ _ μ
        rw [t3]
        cases hm : manyOf s p w with
        | none =>
          rw [hm] at e
          cases e
          exact .inr rfl
        | some m =>
          rw [hm] at e
          dsimp only at e ⊢
          by_cases hag : againB s.wk (w + (m - 1) * stepOf p w) (w + m * stepOf p w) = true
          · rw [if_pos hag] at e ⊢
            dsimp only
            have wb := next_bnd hu hb hmem hw1 hw2 hm hag
            exact ih (rs ++ [⟨w, some m, stepOf p w⟩]) (w + m * stepOf p w) out _ _ _ _ _ N e (by simp; omega) wb.1 wb.2 (by omega)
          · rw [if_neg hag] at e ⊢
            cases e
            exact .inr rfl
theorem runs_spec {s : St} (hu : Up s) (hb : Bnd s) {w : Int} (hw1 : -(10 ^ 32) ≤ w) (hw2 : w ≤ 10 ^ 32) {out : List Rn} (e : runsO s 26 [] w = some out) (μ : Sto) : g_runs_of [.d s.d, .d (.int w)] μ = .ok (.d (.list (out.map Rn.d))) μ := by
  have f : ∀ b : D, fin μ.length (.rt (.d b) μ) = .ok (.d b) μ := fun b => x_fin _ _ _ rfl
  have tg : ∀ (x1 x2 x3 x4 x5 x6 x7 x8 x9 : Option W), tTup [tName 2, tName 3] s.d [some (.d s.d), x1, x2, x3, x4, x5, x6, x7, x8, x9] = some [some (.d s.d), x1, some (.d (.tuple (s.ps.map Pc.d))), some (.d s.wk.d), x4, x5, x6, x7, x8, x9] := fun _ _ _ _ _ _ _ _ _ => rfl
  rw [show g_runs_of = fnOf 2 10 F_runs_of from rfl, fnOf2, runs_shape]
  rw [x_sSeq, x_sTgt]
  simp only [x_eVar, List.getElem?_cons_zero, R.bindS_ok, List.replicate, Nat.reduceSub, tg]
  rw [x_sSeq, x_sAsg]
  simp only [x_eLst, x_aNil, R.bind_ok, asDs_nil, Option.map_some, ofO_some, R.bindS_ok, List.set_cons_succ, List.set_cons_zero]
  rw [x_sSeq, show sWhile 1000000 rcond rbody = whileN rcond rbody 1000000 from rfl]
  rcases while_runs hu hb (some (.d s.d)) μ 26 [] w out none none none none none 1000000 e (by decide) hw1 hw2 (by decide) with ⟨w', rs', y5, y6, y7, y8, y9, e1, rfl, hl⟩ | e1
  · have e1' : whileN rcond rbody 1000000 [some (.d s.d), some (.d (.int w)), some (.d (.tuple (s.ps.map Pc.d))), some (.d s.wk.d), some (.d (.list [])), none, none, none, none, none] μ = _ := e1
    rw [e1']
    unfold rst
    simp only [x_sRet, x_eOp, x_eLst, x_eTup, x_aCons, x_aNil, x_eVar, x_eInt, List.getElem?_cons_zero, List.getElem?_cons_succ, R.bind_ok, asDs_cons, asDs_nil, Option.map_some, ofO_some, view_d, Option.bind_some, rn_f, addRn rs' (Rn.fin w') (by omega), R.bindS_ok]
    exact f _
  · have e1' : whileN rcond rbody 1000000 [some (.d s.d), some (.d (.int w)), some (.d (.tuple (s.ps.map Pc.d))), some (.d s.wk.d), some (.d (.list [])), none, none, none, none, none] μ = _ := e1
    rw [e1']
    exact f _
end Pure

set_option linter.all false
set_option Elab.async false
set_option maxRecDepth 100000
set_option maxHeartbeats 1000000
/-! The plain law: the program's fates. -/
namespace Pure
open PySem Mi Mir
def sameB (ini : List Rn) (b : Int) (k : Nat) : Bool := match ini[k]? with
  | some r => r.b == b
  | none => false
def fidx (ini : List Rn) (b : Int) : List Nat := (List.range ini.length).filter (sameB ini b)
theorem fidx_nil {ini : List Rn} {b : Int} (h : ∀ r ∈ ini, r.b ≠ b) : fidx ini b = [] := by
  unfold fidx
  rw [List.filter_eq_nil_iff]
  intro k hk
  unfold sameB
  split
  · rename_i r hr
    have := h r (List.mem_of_getElem? hr)
    simpa using this
  · simp
theorem fidx_cons {ini : List Rn} {b : Int} (h : ∃ r ∈ ini, r.b = b) : ∃ k t, fidx ini b = k :: t := by
  obtain ⟨r, hr, hb⟩ := h
  obtain ⟨k, hk, e⟩ := List.getElem_of_mem hr
  have : k ∈ fidx ini b := by
    unfold fidx
    rw [List.mem_filter]
    refine ⟨List.mem_range.mpr hk, ?_⟩
    unfold sameB
    rw [List.getElem?_eq_getElem hk, e]
    simp [hb]
  cases hf : fidx ini b with
  | nil => rw [hf] at this; cases this
  | cons a t => exact ⟨a, t, rfl⟩
theorem ixRn (l : List Rn) (k : Nat) (h : k < l.length) : dIx (.list (l.map Rn.d)) (.int (k : Int)) = some l[k].d := by
  have h2 : k < (l.map Rn.d).length := by simpa using h
  have : dIx (.list (l.map Rn.d)) (.int (k : Int)) = some (l.map Rn.d)[k] := by simp [dIx, ixI, h]
  rw [this]
  simp
theorem ixLR (ini : List Rn) (z : Rn) : dIx (.list ((ini ++ [z]).map Rn.d)) (.int (-1)) = some z.d := by
  rw [List.map_append]
  exact ixL _ _
theorem round_at_spec (ini : List Rn) (hl : ini.length ≤ 900) (z : Rn) (μ : Sto) : g_round_at [.d (.list ((ini ++ [z]).map Rn.d))] μ = .ok (.d (match z.m, fidx ini z.b with | some 0, k :: _ => .int (k : Nat) | _, _ => .none)) μ := by
  have f : ∀ b : D, fin μ.length (.rt (.d b) μ) = .ok (.d b) μ := fun b => x_fin _ _ _ rfl
  have bl : bLen [.list ((ini ++ [z]).map Rn.d)] = some (.int ((ini.length : Int) + 1)) := by simp [bLen]
  have zl := ixLR ini z
  have z0 : dIx z.d (.int 0) = some (.int z.b) := rfl
  have z1 : dIx z.d (.int 1) = some (oD z.m) := rfl
  have rg : rangeD 0 (ini.length : Int) = (List.range ini.length).map fun k : Nat => PyData.int (k : Nat) := by
    unfold rangeD
    rw [show ((ini.length : Int) - 0).toNat = ini.length by omega]
    refine List.map_congr_left fun k _ => ?_
    rw [Int.zero_add]
  have lc : ∀ ρ : Mi.Env, ρ.length = 3 → ρ[0]? = some (some (.d (.list ((ini ++ [z]).map Rn.d)))) → lcL (tName 2) (eOp dEq (eOp dIx (eOp dIx (eVar 0) (eVar 2)) (eInt 0)) (eOp dIx (eOp dIx (eVar 0) (eUn dNeg (eInt 1))) (eInt 0))) (eVar 2) ρ ((List.range ini.length).map fun k : Nat => PyData.int (k : Nat)) [] μ = .ok (.d (.list ((fidx ini z.b).map fun k : Nat => PyData.int (k : Nat)))) μ := fun ρ hρ h0 => by
    have g : ∀ (l : List Nat) (acc : List D), (∀ k ∈ l, k < ini.length) → lcL (tName 2) (eOp dEq (eOp dIx (eOp dIx (eVar 0) (eVar 2)) (eInt 0)) (eOp dIx (eOp dIx (eVar 0) (eUn dNeg (eInt 1))) (eInt 0))) (eVar 2) ρ (l.map fun k : Nat => PyData.int (k : Nat)) acc μ = .ok (.d (.list (acc ++ (l.filter (sameB ini z.b)).map fun k : Nat => PyData.int (k : Nat)))) μ := by
      intro l
      induction l with
      | nil => intro acc _; simp [lcL]
      | cons k t ih =>
        intro acc hk
        have hk0 := hk k List.mem_cons_self
        have ih := fun acc => ih acc fun x hx => hk x (List.mem_cons_of_mem _ hx)
        have h0' : (ρ.set 2 (some (.d (.int (k : Nat)))))[0]? = some (some (.d (.list ((ini ++ [z]).map Rn.d)))) := by rw [List.getElem?_set_ne (by decide)]; exact h0
        have h2 : (ρ.set 2 (some (.d (.int (k : Nat)))))[2]? = some (some (.d (.int (k : Nat)))) := by rw [List.getElem?_set_self (by omega)]
        have ix : dIx (.list ((ini ++ [z]).map Rn.d)) (.int (k : Nat)) = some ini[k].d := by
          rw [ixRn _ k (by simp; omega), List.getElem_append_left hk0]
        have i0 : dIx ini[k].d (.int 0) = some (.int ini[k].b) := rfl
        have sb : sameB ini z.b k = (ini[k].b == z.b) := by unfold sameB; rw [List.getElem?_eq_getElem hk0]
        rw [List.map_cons]
        unfold lcL
        cases hb : (ini[k].b == z.b) with
        | true =>
          simp only [x_tName, x_eOp, x_eVar, x_eInt, x_eUn, h0', h2, R.bind_ok, view_d, Option.bind_some, ix, i0, x_negI, zl, z0, dEqI, hb, Option.map_some, ofO_some, ih, List.filter_cons, sb, if_true]
          simp
        | false =>
          simp only [x_tName, x_eOp, x_eVar, x_eInt, x_eUn, h0', h2, R.bind_ok, view_d, Option.bind_some, ix, i0, x_negI, zl, z0, dEqI, hb, Option.map_some, ofO_some, ih, List.filter_cons, sb, Bool.false_eq_true, if_false]
    have := g (List.range ini.length) [] fun k hk => List.mem_range.mp hk
    rw [this]
    rfl
  rw [show g_round_at = fnOf 1 3 F_round_at from rfl, fnOf1]
  unfold F_round_at
  have e1 : (ini.length : Int) + 1 - 1 = ini.length := by omega
  have lim : -(LIM : Int) ≤ (ini.length : Int) ∧ (ini.length : Int) ≤ LIM := by unfold LIM; omega
  rw [x_sSeq, x_sAsg, x_eLc, x_iRange1]
  simp only [x_eOp, x_eBlt, x_aCons, x_aNil, x_eVar, x_eInt, List.getElem?_cons_zero, R.bind_ok, x_views0, x_views1, view_d, Option.bind_some, Option.map_some, bl, ofO_some, x_subI, e1, lim, and_self, if_true, rg]
  rw [lc _ (by simp [wipeE]) (by simp [wipeE])]
  simp only [R.bindS_ok, List.replicate, Nat.reduceSub, List.set_cons_succ, List.set_cons_zero]
  have ne : dNe (.list ((fidx ini z.b).map fun k : Nat => PyData.int (k : Nat))) (.list []) = some (.bool (!(fidx ini z.b).isEmpty)) := by
    rw [ne_nil (n := 0) (fun x hx => by obtain ⟨k, _, rfl⟩ := List.mem_map.mp hx; exact sh_int _) (by decide)]
    cases fidx ini z.b <;> rfl
  cases hm : z.m with
  | none =>
    rw [hm] at z1
    have q : dEq .none (.int 0) = some (.bool false) := rfl
    simp at zl z1
    simp [zl, z1, q, f]
  | some m =>
    rw [hm] at z1
    by_cases h0 : m = 0
    · subst h0
      cases hf : fidx ini z.b with
      | nil =>
        rw [hf] at ne
        simp at zl z1 ne
        simp [zl, z1, dEqI, ne, f]
      | cons k t =>
        rw [hf] at ne
        have i0 : dIx (.list (PyData.int (k : Nat) :: t.map fun k : Nat => PyData.int (k : Nat))) (.int 0) = some (.int (k : Nat)) := ix0 _ _
        simp at zl z1 ne
        simp [zl, z1, dEqI, ne, i0, f]
    · have q : (m == 0) = false := beq_eq_false_iff_ne.mpr h0
      simp at zl z1
      simp [zl, z1, dEqI, q, f, h0]
def isPl : Wk → Bool
  | .place => true
  | _ => false
theorem eq_place (k : Wk) : ∃ x, dIx k.d (.int 0) = some (.str x) ∧ dEq (.str x) (.str "place") = some (.bool (isPl k)) := by
  cases k with
  | first => exact ⟨"first", rfl, by kernel_rfl⟩
  | place => exact ⟨"place", rfl, by kernel_rfl⟩
  | way u lo hi => exact ⟨wayS u, rfl, by cases u <;> kernel_rfl⟩
theorem goes_round_spec (s : St) (ini : List Rn) (hl : ini.length ≤ 900) (z : Rn) (μ : Sto) : g_goes_round [.d s.d, .d (.list ((ini ++ [z]).map Rn.d))] μ = .ok (.d (.bool (isPl s.wk && (match z.m, fidx ini z.b with | some 0, _ :: _ => true | _, _ => false)))) μ := by
  have f : ∀ b : D, fin μ.length (.rt (.d b) μ) = .ok (.d b) μ := fun b => x_fin _ _ _ rfl
  have ra := round_at_spec ini hl z μ
  obtain ⟨x, ix, q⟩ := eq_place s.wk
  have i1 : dIx s.d (.int 1) = some s.wk.d := rfl
  rw [show g_goes_round = fnOf 2 2 F_goes_round from rfl, fnOf2]
  unfold F_goes_round
  cases hp : isPl s.wk with
  | false =>
    rw [hp] at q
    simp [i1, ix, q, f]
  | true =>
    rw [hp] at q
    have nn : (!isNonW (.d (match z.m, fidx ini z.b with | some 0, k :: _ => PyData.int (k : Nat) | _, _ => .none))) = (match z.m, fidx ini z.b with | some 0, _ :: _ => true | _, _ => false) := by
      split <;> rfl
    rw [x_sRet]
    simp only [x_eAnd, x_eOp, x_eVar, x_eInt, x_eStr, List.getElem?_cons_zero, List.getElem?_cons_succ, R.bind_ok, view_d, Option.bind_some, i1, Option.map_some, ofO_some, ix, q, R.test_ok, if_true, x_eNotN, x_eCall, x_aCons, x_aNil, ra, nn, R.bindS_ok, Bool.true_and]
    exact f _
theorem chain_len {s : St} {w0 : Int} {rs : List Rn} {N : Nat} {v : Int} (h : Chain s w0 rs N v) : sumI (rs.map fun r => oD r.m) = some (N : Int) := by
  have sn : ∀ (l : List D) (a : Int) (x : Int), sumI l = some a → sumI (l ++ [.int x]) = some (a + x) := by
    intro l
    induction l with
    | nil => intro a x e; cases e; simp [sumI]
    | cons d t ih =>
      intro a x e
      cases d with
      | int i =>
        simp only [List.cons_append, sumI] at e ⊢
        cases ht : sumI t with
        | none => rw [ht] at e; cases e
        | some b =>
          rw [ht] at e
          cases e
          rw [ih b x ht]
          simp only [Option.map_some]
          congr 1
          omega
      | _ => simp [sumI] at e
  induction h with
  | nil => rfl
  | @snoc rs N v h m hm st hr ih =>
    rw [List.map_append, List.map_cons, List.map_nil]
    have := sn _ _ (m : Int) ih
    simpa using this
theorem sumD (ini : List Rn) (w : Int) {N : Int} (h : sumI (ini.map fun r => oD r.m) = some N) : sumI ((ini ++ [Rn.fin w]).map fun r => oD r.m) = some N := by
  rw [List.map_append]
  have sn : ∀ (l : List D) (a : Int), sumI l = some a → sumI (l ++ [.int 0]) = some a := by
    intro l
    induction l with
    | nil => intro a e; cases e; simp [sumI]
    | cons d t ih =>
      intro a e
      cases d with
      | int i =>
        simp only [List.cons_append, sumI] at e ⊢
        cases ht : sumI t with
        | none => rw [ht] at e; cases e
        | some b =>
          rw [ht] at e
          cases e
          rw [ih b ht]
          rfl
      | _ => simp [sumI] at e
  exact sn _ _ h
theorem runs_len {s : St} : ∀ (n : Nat) (rs : List Rn) (w : Int) (out : List Rn), runsO s n rs w = some out → out.length ≤ rs.length + n + 1
  | n + 1, rs, w, out, e => by
    unfold runsO at e
    split at e
    · cases e; simp
    · split at e
      · cases e; simp
      · split at e
        · cases e; simp
        · split at e
          · have := runs_len n _ _ out e
            simp at this
            omega
          · cases e; simp
/-- what the program tells of a row that goes up -/
theorem fate_of_spec {s : St} (hu : Up s) (hp : Sep s.ps) (hb : Bnd s) {w : Int} (hw1 : -(10 ^ 32) ≤ w) (hw2 : w ≤ 10 ^ 32) (μ : Sto) :
    (∃ T L, Ends s w T L ∧ g_fate_of [.d s.d, .d (.int w)] μ = .ok (.d (.tuple [.int (T : Nat), .int L])) μ) ∨ (Endless s w ∧ g_fate_of [.d s.d, .d (.int w)] μ = .ok (.d (.tuple [.none, .none])) μ) := by
  have f : ∀ b : D, fin μ.length (.rt (.d b) μ) = .ok (.d b) μ := fun b => x_fin _ _ _ rfl
  obtain ⟨out, e⟩ := runs_all hu hp w
  have ro := runs_out hu hp 26 [] 0 w out .nil e
  have rsp := runs_spec hu hb hw1 hw2 e μ
  have ol := runs_len 26 [] w out e
  simp only [List.length_nil] at ol
  have lc : ∀ ρ : Mi.Env, ρ.length = 4 → lcL (tName 3) eYes (eOp dIx (eVar 3) (eInt 1)) ρ (out.map Rn.d) [] μ = .ok (.d (.list (out.map fun r => oD r.m))) μ := fun ρ hρ => by
    rw [lc_mapT Rn.d (fun r => oD r.m) out [] fun r hr => ⟨_, rfl, rfl, ?_⟩]
    · rfl
    · have i1 : dIx r.d (.int 1) = some (oD r.m) := rfl
      simp [hρ, i1]
  have go : ∀ (ini : List Rn) (z : Rn) (m : Int) (N : Int), out = ini ++ [z] → z.m = some m → g_goes_round [.d s.d, .d (.list ((ini ++ [z]).map Rn.d))] μ = .ok (.d (.bool false)) μ → sumI (out.map fun r => oD r.m) = some N →
      g_fate_of [.d s.d, .d (.int w)] μ = .ok (.d (.tuple [.int N, .int z.b])) μ := fun ini z m N eo hz hg hs => by
    subst eo
    have zl := ixLR ini z
    have z0 : dIx z.d (.int 0) = some (.int z.b) := rfl
    have z1 : dIx z.d (.int 1) = some (oD z.m) := rfl
    rw [hz] at z1
    have bs : bSum [.list ((ini ++ [z]).map fun r => oD r.m)] = some (.int N) := by
      show (sumI _).map PyData.int = _
      rw [hs]
      rfl
    rw [show g_fate_of = fnOf 2 4 F_fate_of from rfl, fnOf2]
    unfold F_fate_of
    rw [x_sSeq, x_sAsg]
    simp only [x_eCall, x_aCons, x_aNil, x_eVar, List.getElem?_cons_zero, List.getElem?_cons_succ, R.bind_ok, rsp, R.bindS_ok, List.replicate, Nat.reduceSub, List.set_cons_succ, List.set_cons_zero]
    rw [x_sSeq, x_sIf]
    simp only [x_eOr, x_eIsN, x_eOp, x_eUn, x_eCall, x_aCons, x_aNil, x_eVar, x_eInt, List.getElem?_cons_zero, List.getElem?_cons_succ, R.bind_ok, view_d, Option.bind_some, x_negI, Option.map_some, ofO_some, zl, z1, oD_some, x_isN2, R.test_ok, Bool.false_eq_true, if_false, hg, RS.test_ok, x_sNil]
    rw [x_sRet, x_eTup, x_aCons, x_eBlt, x_aCons, x_eLc, x_iSeq]
    simp only [x_eVar, List.getElem?_cons_zero, List.getElem?_cons_succ, R.bind_ok, items, ofO_some]
    rw [lc _ (by simp [wipeE])]
    simp only [x_aNil, R.bind_ok, x_views0, x_views1, view_d, Option.bind_some, Option.map_some, bs, ofO_some, x_aCons, x_eOp, x_eUn, x_eVar, x_eInt, List.getElem?_cons_zero, List.getElem?_cons_succ, x_negI, zl, z0, asDs_cons, asDs_nil, R.bindS_ok]
    exact f _
  have no : ∀ (ini : List Rn) (z : Rn), out = ini ++ [z] → (z.m = none ∨ (∃ m, z.m = some m ∧ g_goes_round [.d s.d, .d (.list ((ini ++ [z]).map Rn.d))] μ = .ok (.d (.bool true)) μ)) →
      g_fate_of [.d s.d, .d (.int w)] μ = .ok (.d (.tuple [.none, .none])) μ := fun ini z eo hz => by
    subst eo
    have zl := ixLR ini z
    have z1 : dIx z.d (.int 1) = some (oD z.m) := rfl
    rw [show g_fate_of = fnOf 2 4 F_fate_of from rfl, fnOf2]
    unfold F_fate_of
    rw [x_sSeq, x_sAsg]
    simp only [x_eCall, x_aCons, x_aNil, x_eVar, List.getElem?_cons_zero, List.getElem?_cons_succ, R.bind_ok, rsp, R.bindS_ok, List.replicate, Nat.reduceSub, List.set_cons_succ, List.set_cons_zero]
    rw [x_sSeq, x_sIf]
    rcases hz with hz | ⟨m, hz, hg⟩
    · rw [hz] at z1
      simp only [x_eOr, x_eIsN, x_eOp, x_eUn, x_eVar, x_eInt, List.getElem?_cons_zero, List.getElem?_cons_succ, R.bind_ok, view_d, Option.bind_some, x_negI, Option.map_some, ofO_some, zl, z1, oD_none, x_isN1, R.test_ok, if_true, RS.test_ok, x_sRet, x_eTup, x_aCons, x_aNil, x_eNon, asDs_cons, asDs_nil, R.bindS_ok]
      exact f _
    · rw [hz] at z1
      simp only [x_eOr, x_eIsN, x_eOp, x_eUn, x_eCall, x_aCons, x_aNil, x_eVar, x_eInt, List.getElem?_cons_zero, List.getElem?_cons_succ, R.bind_ok, view_d, Option.bind_some, x_negI, Option.map_some, ofO_some, zl, z1, oD_some, x_isN2, R.test_ok, Bool.false_eq_true, if_false, hg, if_true, RS.test_ok, x_sRet, x_eTup, x_eNon, asDs_cons, asDs_nil, R.bindS_ok]
      exact f _
  cases ro with
  | @stop rs N v hc hg =>
    left
    refine ⟨N, v, .inl ⟨hc.rch, hg⟩, go rs (Rn.fin v) 0 N rfl rfl ?_ (sumD rs v (chain_len hc))⟩
    rw [goes_round_spec s rs (by simp at ol; omega) (Rn.fin v) μ]
    have : fidx rs (Rn.fin v).b = [] := fidx_nil fun r hr hb => by
      obtain ⟨a, ha, har⟩ := hc.start r hr
      have al := (hc.rch.alive ha har).1
      have hb : r.b = v := hb
      rw [hb, hg] at al
      cases al
    rw [this]
    simp [Rn.fin]
  | @ring rs N v hc hg hpl hv he =>
    right
    refine ⟨he, no rs (Rn.fin v) rfl (.inr ⟨0, rfl, ?_⟩)⟩
    rw [goes_round_spec s rs (by simp at ol; omega) (Rn.fin v) μ]
    obtain ⟨k, t, hk⟩ := fidx_cons (ini := rs) (b := (Rn.fin v).b) hv
    rw [hk, hpl]
    rfl
  | @far rs N v st hc hr he =>
    right
    exact ⟨he, no rs ⟨v, none, st⟩ rfl (.inl rfl)⟩
  | @last rs N v st hc m hm hr hnp he =>
    left
    refine ⟨N + m, v + m * st, he, ?_⟩
    have cs := chain_len hc
    have sn : sumI ((rs ++ [(⟨v, some (m : Int), st⟩ : Rn)]).map fun r => oD r.m) = some ((N + m : Nat) : Int) := by
      have key : ∀ (l : List D) (a : Int) (x : Int), sumI l = some a → sumI (l ++ [.int x]) = some (a + x) := by
        intro l
        induction l with
        | nil => intro a x e; cases e; simp [sumI]
        | cons d t ih =>
          intro a x e
          cases d with
          | int i =>
            simp only [List.cons_append, sumI] at e ⊢
            cases ht : sumI t with
            | none => rw [ht] at e; cases e
            | some b =>
              rw [ht] at e
              cases e
              rw [ih b x ht]
              simp only [Option.map_some]
              congr 1
              omega
          | _ => simp [sumI] at e
      rw [List.map_append]
      have := key _ _ (m : Int) cs
      simpa using this
    refine go (rs ++ [⟨v, some (m : Int), st⟩]) (Rn.fin (v + m * st)) 0 _ rfl rfl ?_ (sumD _ _ sn)
    rw [goes_round_spec s _ (by simp at ol ⊢; omega) (Rn.fin (v + m * st)) μ]
    have : isPl s.wk = false := by
      cases hk : s.wk with
      | place => exact absurd hk hnp
      | _ => rfl
    rw [this]
    rfl
theorem bnd_of {s : St} (h : StOk s) : Bnd (rise s) := by
  cases hg : gdown s with
  | false =>
    rw [rise_no hg]
    refine ⟨fun p hp i e => (h.ch.all p hp).hi i e, fun p hp => ⟨(h.ch.all p hp).by1, (h.ch.all p hp).by2⟩, fun u lo hi e i hi' => ?_⟩
    have := h.wk
    rw [e] at this
    exact this.2.1 i hi'
  | true =>
    refine ⟨fun p hp i e => ?_, fun p hp => ?_, fun u lo hi e i hi' => ?_⟩
    · rw [rise_ps hg] at hp
      obtain ⟨q, hq, rfl⟩ := List.mem_map.mp hp
      have := (h.ch.all q (List.mem_reverse.mp hq)).lo (-i) (negO_some e)
      omega
    · rw [rise_ps hg] at hp
      obtain ⟨q, hq, rfl⟩ := List.mem_map.mp hp
      have h1 := (h.ch.all q (List.mem_reverse.mp hq)).by1
      have h2 := (h.ch.all q (List.mem_reverse.mp hq)).by2
      show -far ≤ -q.by_ ∧ -q.by_ ≤ far
      omega
    · unfold rise at e
      rw [if_pos hg] at e
      split at e
      · rename_i u' lo' hi'' hk
        cases e
        have := h.wk
        rw [hk] at this
        have := this.1 (-i) (negO_some hi')
        omega
      · rename_i hne
        exact absurd e (hne _ _ _)
/-- the program's fate of any statement -/
theorem fate_spec {s : St} (h : StOk s) {w : Int} (hw1 : -far ≤ w) (hw2 : w ≤ far) (μ : Sto) :
    (∃ T L, Ends s w T L ∧ g_fate [.d s.d, .d (.int w)] μ = .ok (.d (.tuple [.int (T : Nat), .int L])) μ) ∨ (Endless s w ∧ g_fate [.d s.d, .d (.int w)] μ = .ok (.d (.tuple [.none, .none])) μ) := by
  have f : ∀ b : D, fin μ.length (.rt (.d b) μ) = .ok (.d b) μ := fun b => x_fin _ _ _ rfl
  have n1 := needst_ok (sh_std s) (fitsSt_ok h) μ
  have n2 := needw_d (.int w) μ
  rw [whole_far hw1 hw2, if_pos rfl] at n2
  have sg := sign_of_spec (s := s) μ
  have ri := risen_spec (s := s) μ
  have hf : far = 10 ^ 30 := rfl
  have hs1 : signI s = 1 ∨ signI s = -1 := by unfold signI; split; exact .inr rfl; exact .inl rfl
  have mul : ∀ x : Int, dMul (.int (signI s)) (.int x) = some (.int (signI s * x)) := fun x => x_mulI (mulOk_l (by rcases hs1 with e | e <;> rw [e] <;> decide))
  have hsw : -(10 ^ 32) ≤ signI s * w ∧ signI s * w ≤ 10 ^ 32 := by rcases hs1 with e | e <;> rw [e] <;> omega
  have tg : ∀ (x3 x4 : Option W) (a b : D) (y0 y1 y2 : Option W), tTup [tName 3, tName 4] (.tuple [a, b]) [y0, y1, y2, x3, x4] = some [y0, y1, y2, some (.d a), some (.d b)] := fun _ _ _ _ _ _ _ => rfl
  have sp := sep_of h.ch
  rw [show g_fate = fnOf 2 5 F_fate from rfl, fnOf2]
  unfold F_fate
  rw [x_sSeq, x_sDrop]
  simp only [x_eCall, x_aCons, x_aNil, x_eVar, List.getElem?_cons_zero, R.bind_ok, n1, R.bindS_ok, List.replicate, Nat.reduceSub]
  rw [x_sSeq, x_sDrop]
  simp only [x_eCall, x_aCons, x_aNil, x_eVar, List.getElem?_cons_zero, List.getElem?_cons_succ, R.bind_ok, n2, R.bindS_ok]
  rw [x_sSeq, x_sAsg]
  simp only [x_eCall, x_aCons, x_aNil, x_eVar, List.getElem?_cons_zero, List.getElem?_cons_succ, R.bind_ok, sg, R.bindS_ok, List.set_cons_succ, List.set_cons_zero]
  rcases fate_of_spec (up_rise h) (sep_rise sp) (bnd_of h) hsw.1 hsw.2 μ with ⟨T, L, he, e⟩ | ⟨he, e⟩
  · left
    refine ⟨T, signI s * L, ends_turn sp he, ?_⟩
    rw [x_sSeq, x_sTgt]
    simp only [x_eCall, x_eOp, x_aCons, x_aNil, x_eVar, List.getElem?_cons_zero, List.getElem?_cons_succ, R.bind_ok, ri, view_d, Option.bind_some, mul, Option.map_some, ofO_some, e, R.bindS_ok, tg, x_sRet, x_eTup, x_eIf, x_eIsN, x_isN2, R.test_ok, Bool.false_eq_true, if_false, asDs_cons, asDs_nil]
    exact f _
  · right
    refine ⟨endless_turn sp he, ?_⟩
    rw [x_sSeq, x_sTgt]
    simp only [x_eCall, x_eOp, x_aCons, x_aNil, x_eVar, List.getElem?_cons_zero, List.getElem?_cons_succ, R.bind_ok, ri, view_d, Option.bind_some, mul, Option.map_some, ofO_some, e, R.bindS_ok, tg, x_sRet, x_eTup, x_eIf, x_eIsN, x_isN1, R.test_ok, if_true, x_eNon, asDs_cons, asDs_nil]
    exact f _
theorem fate_st {d : D} (hs : SeqAt.shaped d = true) (hf : fitsSt d = false) (w : D) (μ : Sto) : g_fate [.d d, .d w] μ = .er ⟨"InvalidStatement", none⟩ μ := by
  have n1 := needst_no hs hf μ
  rw [show g_fate = fnOf 2 5 F_fate from rfl, fnOf2]
  simp [F_fate, n1, fin]
theorem fate_w {s : St} (h : StOk s) {d : D} (hw : wholeD d (-far) far = false) (μ : Sto) : g_fate [.d s.d, .d d] μ = .er ⟨"InvalidWorth", none⟩ μ := by
  have n1 := needst_ok (sh_std s) (fitsSt_ok h) μ
  have n2 := needw_d d μ
  rw [hw, if_neg Bool.false_ne_true] at n2
  rw [show g_fate = fnOf 2 5 F_fate from rfl, fnOf2]
  simp [F_fate, n1, n2, fin]
end Pure

set_option linter.all false
set_option Elab.async false
set_option maxRecDepth 100000
set_option maxHeartbeats 1000000
/-! The plain law: worths behind so many changes, and when a worth comes; by runs. No program here. -/
namespace Pure
open PySem Mi Mir
theorem ends_bh {s : St} {w : Int} {T : Nat} {L : Int} (h : Ends s w T L) : Bh s w T L := by
  rcases h with ⟨h, _⟩ | ⟨n, v, e, h, g, _, rfl⟩
  · exact .inl h
  · exact .inr ⟨n, v, e, h, g, rfl⟩
theorem ends_no {s : St} {w : Int} {T : Nat} {L : Int} (h : Ends s w T L) {t : Nat} {x : Int} (ht : T < t) : ¬ Bh s w t x := by
  intro hb
  rcases h with ⟨h, g⟩ | ⟨n, v, rfl, h, g, c, rfl⟩
  · have no : ∀ {k u}, T < k → Rch s w k u → False := fun hk hr => by
      have := (hr.alive hk h).1
      rw [g] at this
      cases this
    rcases hb with hb | ⟨k, u, rfl, hk, gk, _⟩
    · exact no ht hb
    · by_cases hkT : T < k
      · exact no hkT hk
      · have : k = T := by omega
        subst this
        rw [hk.det h, g] at gk
        cases gk
  · have no : ∀ {k u}, n < k → Rch s w k u → False := fun hk hr => by
      have := (hr.alive hk h).2
      rw [c] at this
      cases this
    rcases hb with hb | ⟨k, u, rfl, hk, gk, _⟩
    · exact no (by omega) hb
    · exact no (by omega) hk
theorem ends_uniq {s : St} {w : Int} {T T' : Nat} {L L' : Int} (h : Ends s w T L) (h' : Ends s w T' L') : T = T' ∧ L = L' := by
  have e : T = T' := by
    rcases Nat.lt_trichotomy T T' with hl | hl | hl
    · exact absurd (ends_bh h') (ends_no h hl)
    · exact hl
    · exact absurd (ends_bh h) (ends_no h' hl)
  subst e
  exact ⟨rfl, (ends_bh h).det (ends_bh h')⟩
theorem bh_rch {s : St} {w : Int} {n : Nat} {g y : Int} (h : Bh s w n g) (h2 : Rch s w n y) : Rch s w n g := by
  rw [h.det (.inl h2)]
  exact h2
theorem endless_bh {s : St} {w : Int} (he : Endless s w) {n : Nat} {g : Int} (h : Bh s w n g) : Rch s w n g := by
  obtain ⟨y, hy⟩ := he n
  exact bh_rch h hy
theorem rch_loop {s : St} {v : Int} {p : Nat} (h : Rch s v p v) : ∀ k, Rch s v (k * p) v
  | 0 => by rw [Nat.zero_mul]; exact .refl
  | k + 1 => by rw [Nat.succ_mul]; exact (rch_loop h k).add h
theorem rch_rest {s : St} {w v x : Int} {a n : Nat} (h1 : Rch s w a v) (h2 : Rch s w n x) (hn : a ≤ n) : Rch s v (n - a) x := by
  obtain ⟨u, hu, hd⟩ := h2.pre a hn
  rw [← h1.det hu] at hd
  exact hd
/-! ### behind -/
def bhL : List Rn → Int → Option Int
  | [], _ => none
  | r :: l, t => match r.m with
    | none => some (r.b + t * r.st)
    | some m => if t ≤ m then some (r.b + t * r.st) else bhL l (t - m)
theorem bhL_chain {s : St} {w0 : Int} {rs : List Rn} {N : Nat} {v : Int} (h : Chain s w0 rs N v) : ∀ (tail : List Rn) (t : Nat), (∃ x, bhL (rs ++ tail) t = some x ∧ Rch s w0 t x) ∨ (N ≤ t ∧ bhL (rs ++ tail) t = bhL tail ((t : Int) - N)) := by
  induction h with
  | nil => intro tail t; right; exact ⟨by omega, by simp⟩
  | @snoc rs N v h m hm st hr ih =>
    intro tail t
    rw [List.append_assoc]
    rcases ih ([⟨v, some (m : Int), st⟩] ++ tail) t with h1 | ⟨h1, h2⟩
    · exact .inl h1
    · rw [h2]
      show (∃ x, (if (t : Int) - N ≤ m then some (v + ((t : Int) - N) * st) else bhL tail ((t : Int) - N - m)) = some x ∧ _) ∨ _ ∧ (if (t : Int) - N ≤ m then some (v + ((t : Int) - N) * st) else bhL tail ((t : Int) - N - m)) = _
      by_cases hc : (t : Int) - N ≤ m
      · left
        rw [if_pos hc]
        refine ⟨_, rfl, ?_⟩
        have := h.rch.add (hr (t - N) (by omega))
        rw [show N + (t - N) = t by omega, show ((t - N : Nat) : Int) = (t : Int) - N by omega] at this
        exact this
      · right
        rw [if_neg hc]
        exact ⟨by omega, by congr 1; push_cast; omega⟩
theorem bhL_stop {s : St} {w0 : Int} {rs : List Rn} {N : Nat} {v : Int} (h : Chain s w0 rs N v) (hg : goB s v = false) (t : Nat) (x : Int) : bhL (rs ++ [Rn.fin v]) t = some x ↔ Bh s w0 t x := by
  have en : Ends s w0 N v := .inl ⟨h.rch, hg⟩
  rcases bhL_chain h [Rn.fin v] t with ⟨y, e, hy⟩ | ⟨h1, e⟩
  · rw [e]
    exact ⟨fun hx => by cases hx; exact .inl hy, fun hx => by rw [hx.det (.inl hy)]⟩
  · rw [e]
    show (if (t : Int) - N ≤ 0 then some (v + ((t : Int) - N) * 0) else none) = some x ↔ _
    by_cases hc : (t : Int) - N ≤ 0
    · have : t = N := by omega
      subst this
      rw [if_pos hc, Int.mul_zero, Int.add_zero]
      exact ⟨fun hx => by cases hx; exact .inl h.rch, fun hx => by rw [hx.det (.inl h.rch)]⟩
    · rw [if_neg hc]
      exact ⟨fun hx => (nomatch hx), fun hx => absurd hx (ends_no en (by omega))⟩
theorem bhL_far {s : St} {w0 : Int} {rs : List Rn} {N : Nat} {v st : Int} (h : Chain s w0 rs N v) (hr : ∀ j : Nat, Rch s v j (v + j * st)) (t : Nat) (x : Int) : bhL (rs ++ [⟨v, none, st⟩]) t = some x ↔ Bh s w0 t x := by
  rcases bhL_chain h [⟨v, none, st⟩] t with ⟨y, e, hy⟩ | ⟨h1, e⟩
  · rw [e]
    exact ⟨fun hx => by cases hx; exact .inl hy, fun hx => by rw [hx.det (.inl hy)]⟩
  · rw [e]
    have hy : Rch s w0 t (v + ((t : Int) - N) * st) := by
      have := h.rch.add (hr (t - N))
      rw [show N + (t - N) = t by omega, show ((t - N : Nat) : Int) = (t : Int) - N by omega] at this
      exact this
    show some (v + ((t : Int) - N) * st) = some x ↔ _
    exact ⟨fun hx => by cases hx; exact .inl hy, fun hx => by rw [hx.det (.inl hy)]⟩
theorem bhL_last {s : St} {w0 : Int} {rs : List Rn} {N : Nat} {v st : Int} (h : Chain s w0 rs N v) (m : Nat) (hm : 1 ≤ m) (hr : ∀ j : Nat, j < m → Rch s v j (v + j * st)) (he : Ends s w0 (N + m) (v + m * st)) (t : Nat) (x : Int) :
    bhL (rs ++ [⟨v, some (m : Int), st⟩] ++ [Rn.fin (v + m * st)]) t = some x ↔ Bh s w0 t x := by
  rw [List.append_assoc]
  rcases bhL_chain h ([⟨v, some (m : Int), st⟩] ++ [Rn.fin (v + m * st)]) t with ⟨y, e, hy⟩ | ⟨h1, e⟩
  · rw [e]
    exact ⟨fun hx => by cases hx; exact .inl hy, fun hx => by rw [hx.det (.inl hy)]⟩
  · rw [e]
    show (if (t : Int) - N ≤ m then some (v + ((t : Int) - N) * st) else if (t : Int) - N - m ≤ 0 then some (v + m * st + ((t : Int) - N - m) * 0) else none) = some x ↔ _
    by_cases hc : (t : Int) - N ≤ m
    · rw [if_pos hc]
      have hy : Bh s w0 t (v + ((t : Int) - N) * st) := by
        by_cases hl : t - N < m
        · have := h.rch.add (hr (t - N) hl)
          rw [show N + (t - N) = t by omega, show ((t - N : Nat) : Int) = (t : Int) - N by omega] at this
          exact .inl this
        · have := ends_bh he
          rw [show N + m = t by omega] at this
          rw [show (t : Int) - N = m by omega]
          exact this
      exact ⟨fun hx => by cases hx; exact hy, fun hx => by rw [hx.det hy]⟩
    · rw [if_neg hc, if_neg (by omega)]
      exact ⟨fun hx => (nomatch hx), fun hx => absurd hx (ends_no he (by omega))⟩
theorem sumI_app : ∀ (a b : List D) (x y : Int), sumI a = some x → sumI b = some y → sumI (a ++ b) = some (x + y)
  | [], b, x, y, h1, h2 => by cases h1; rw [Int.zero_add]; exact h2
  | d :: t, b, x, y, h1, h2 => by
    cases d with
    | int i =>
      simp only [List.cons_append, sumI] at h1 ⊢
      cases ht : sumI t with
      | none => rw [ht] at h1; cases h1
      | some z =>
        rw [ht] at h1
        cases h1
        rw [sumI_app t b z y ht h2]
        simp only [Option.map_some]
        congr 1
        omega
    | _ => simp [sumI] at h1
/-- where a run begins -/
theorem chain_at {s : St} {w0 : Int} {rs : List Rn} {N : Nat} {v : Int} (h : Chain s w0 rs N v) : ∀ k, k < rs.length → ∃ a : Nat, sumI ((rs.take k).map fun r => oD r.m) = some (a : Int) ∧ sumI ((rs.drop k).map fun r => oD r.m) = some ((N : Int) - a) ∧ a < N ∧ ∃ r, rs[k]? = some r ∧ Rch s w0 a r.b := by
  induction h with
  | nil => intro k hk; simp at hk
  | @snoc rs N v h m hm st hr ih =>
    intro k hk
    have s1 : sumI ([(⟨v, some (m : Int), st⟩ : Rn)].map fun r => oD r.m) = some (m : Int) := by simp [sumI]
    by_cases hl : k < rs.length
    · obtain ⟨a, e1, e2, e3, r, e4, e5⟩ := ih k hl
      refine ⟨a, ?_, ?_, by omega, r, ?_, e5⟩
      · rw [List.take_append_of_le_length (by omega)]
        exact e1
      · rw [List.drop_append_of_le_length (by omega), List.map_append, sumI_app _ _ _ _ e2 s1]
        congr 1
        push_cast
        omega
      · rw [List.getElem?_append_left hl]
        exact e4
    · have : k = rs.length := by simp at hk; omega
      subst this
      refine ⟨N, ?_, ?_, by omega, ⟨v, some (m : Int), st⟩, ?_, h.rch⟩
      · rw [List.take_left]
        exact chain_len h
      · rw [List.drop_left, s1]
        congr 1
        push_cast
        omega
      · simp
/-! ### when -/
def whC (r : Rn) (g : Int) : Bool := decide (r.st ≠ 0) && (decide ((g - r.b).fmod r.st = 0) && (decide (0 < (g - r.b).fdiv r.st) && match r.m with
  | none => true
  | some m => decide ((g - r.b).fdiv r.st ≤ m)))
def whL : List Rn → Int → Int → Option Int
  | [], _, _ => none
  | r :: l, done, g => if g - r.b = 0 then some done else if whC r g = true then some (done + (g - r.b).fdiv r.st) else whL l (done + r.m.getD 0) g
theorem whC_iff (r : Rn) (g : Int) : whC r g = true ↔ r.st ≠ 0 ∧ ∃ j : Nat, 0 < j ∧ g = r.b + j * r.st ∧ (g - r.b).fdiv r.st = j ∧ ∀ m, r.m = some m → (j : Int) ≤ m := by
  unfold whC
  simp only [Bool.and_eq_true, decide_eq_true_eq]
  constructor
  · rintro ⟨h0, h1, h2, h3⟩
    have e := Int.mul_fdiv_add_fmod (g - r.b) r.st
    rw [h1, Int.add_zero] at e
    refine ⟨h0, ((g - r.b).fdiv r.st).toNat, by omega, ?_, by omega, fun m hm => ?_⟩
    · rw [show ((((g - r.b).fdiv r.st).toNat : Nat) : Int) = (g - r.b).fdiv r.st by omega, Int.mul_comm]
      omega
    · rw [hm] at h3
      have := of_decide_eq_true h3
      omega
  · rintro ⟨h0, j, hj, e, ed, hm⟩
    have e2 : g - r.b = j * r.st := by omega
    refine ⟨h0, ?_, by omega, ?_⟩
    · rw [e2]
      exact Int.mul_fmod_left _ _
    · split
      · rfl
      · rename_i m hm'
        exact decide_eq_true (by rw [ed]; exact hm m hm')
theorem whC_of {r : Rn} {g : Int} {j : Nat} (h0 : g - r.b ≠ 0) (e : g = r.b + j * r.st) (hm : ∀ m, r.m = some m → (j : Int) ≤ m) : whC r g = true := by
  have hst : r.st ≠ 0 := fun z => h0 (by rw [e, z]; simp <;> omega)
  have hj : 0 < j := by
    rcases Nat.eq_zero_or_pos j with rfl | h
    · exact absurd (by rw [e]; simp <;> omega) h0
    · exact h
  exact (whC_iff r g).mpr ⟨hst, j, hj, e, by rw [show g - r.b = j * r.st by omega]; exact Int.mul_fdiv_cancel _ hst, hm⟩
theorem run_inj {v st : Int} {i j : Nat} (h : st ≠ 0) (e : v + (i : Int) * st = v + j * st) : i = j := by
  have : ((i : Int) - j) * st = 0 := by rw [Int.sub_mul]; omega
  rcases Int.mul_eq_zero.mp this with h1 | h1
  · omega
  · exact absurd h1 h
theorem whL_chain {s : St} {w0 : Int} {rs : List Rn} {N : Nat} {v : Int} (h : Chain s w0 rs N v) : ∀ (tail : List Rn) (g : Int),
    (∃ n : Nat, whL (rs ++ tail) 0 g = some (n : Int) ∧ Rch s w0 n g ∧ ∀ k, k < n → ¬ Rch s w0 k g) ∨ (whL (rs ++ tail) 0 g = whL tail N g ∧ ∀ k, k < N → ¬ Rch s w0 k g) := by
  induction h with
  | nil => intro tail g; right; exact ⟨by simp, fun k hk => by omega⟩
  | @snoc rs N v h m hm st hr ih =>
    intro tail g
    rw [List.append_assoc]
    rcases ih ([⟨v, some (m : Int), st⟩] ++ tail) g with h1 | ⟨h1, h2⟩
    · exact .inl h1
    · rw [h1]
      rw [show [(⟨v, some (m : Int), st⟩ : Rn)] ++ tail = ⟨v, some (m : Int), st⟩ :: tail from rfl, whL]
      by_cases h0 : g - v = 0
      · left
        rw [if_pos h0]
        refine ⟨N, rfl, ?_, h2⟩
        rw [show g = v by omega]
        exact h.rch
      · rw [if_neg h0]
        by_cases hc : whC ⟨v, some (m : Int), st⟩ g = true
        · left
          rw [if_pos hc]
          obtain ⟨hst, j, hj, e, ed, hjm⟩ := (whC_iff _ _).mp hc
          have hjm : (j : Int) ≤ m := hjm m rfl
          have e : g = v + j * st := e
          have ed : (g - v).fdiv st = j := ed
          have hst : st ≠ 0 := hst
          refine ⟨N + j, ?_, ?_, fun k hk hr' => ?_⟩
          · show some ((N : Int) + (g - v).fdiv st) = _
            rw [ed]
            simp
          · rw [e]
            exact h.rch.add (hr j (by omega))
          · by_cases hkN : k < N
            · exact h2 k hkN hr'
            · have := h.rch.add (hr (k - N) (by omega))
              rw [show N + (k - N) = k by omega] at this
              have := hr'.det this
              rw [e] at this
              have := run_inj hst this
              omega
        · right
          rw [if_neg hc]
          refine ⟨?_, fun k hk hr' => ?_⟩
          · show whL tail ((N : Int) + m) g = _
            rw [show ((N + m : Nat) : Int) = (N : Int) + m by omega]
          · by_cases hkN : k < N
            · exact h2 k hkN hr'
            · have := h.rch.add (hr (k - N) (by omega))
              rw [show N + (k - N) = k by omega] at this
              exact hc (whC_of (j := k - N) h0 (hr'.det this) (fun m' hm' => by cases hm'; omega))
/-- what the runs tell of the first time -/
def Wh (s : St) (w g : Int) (o : Option Int) : Prop := (∃ n : Nat, o = some (n : Int) ∧ Bh s w n g ∧ ∀ k, k < n → ¬ Bh s w k g) ∨ (o = none ∧ ∀ n, ¬ Bh s w n g)
theorem chain_no {s : St} {w0 : Int} {N : Nat} {v g : Int} (h : Rch s w0 N v) (h2 : ∀ k, k < N → ¬ Rch s w0 k g) : ∀ k, k < N → ¬ Bh s w0 k g := fun k hk hb => by
  obtain ⟨u, hu, _⟩ := h.pre k (by omega)
  exact h2 k hk (bh_rch hb hu)
theorem wh_of {s : St} {w0 : Int} {n : Nat} {g : Int} (h : Rch s w0 n g) (h2 : ∀ k, k < n → ¬ Rch s w0 k g) : Wh s w0 g (some (n : Int)) := .inl ⟨n, rfl, .inl h, chain_no h h2⟩
theorem whL_stop {s : St} {w0 : Int} {rs : List Rn} {N : Nat} {v : Int} (h : Chain s w0 rs N v) (hg : goB s v = false) (g : Int) : Wh s w0 g (whL (rs ++ [Rn.fin v]) 0 g) := by
  have en : Ends s w0 N v := .inl ⟨h.rch, hg⟩
  rcases whL_chain h [Rn.fin v] g with ⟨n, e, hr, hn⟩ | ⟨e, hn⟩
  · rw [e]
    exact wh_of hr hn
  · rw [e, whL]
    by_cases h0 : g - (Rn.fin v).b = 0
    · rw [if_pos h0]
      have : g = v := by have : g - v = 0 := h0; omega
      subst this
      exact wh_of h.rch hn
    · rw [if_neg h0, if_neg (by rw [whC_iff]; exact fun z => z.1 rfl)]
      refine .inr ⟨rfl, fun n hb => ?_⟩
      rcases Nat.lt_trichotomy n N with hl | rfl | hl
      · exact chain_no h.rch hn n hl hb
      · exact h0 (by show g - v = 0; rw [hb.det (.inl h.rch)]; omega)
      · exact ends_no en hl hb
theorem whL_far {s : St} {w0 : Int} {rs : List Rn} {N : Nat} {v st : Int} (h : Chain s w0 rs N v) (hr : ∀ j : Nat, Rch s v j (v + j * st)) (he : Endless s w0) (g : Int) : Wh s w0 g (whL (rs ++ [⟨v, none, st⟩]) 0 g) := by
  rcases whL_chain h [⟨v, none, st⟩] g with ⟨n, e, hr', hn⟩ | ⟨e, hn⟩
  · rw [e]
    exact wh_of hr' hn
  · rw [e, whL]
    have at_ : ∀ k, ¬ k < N → Rch s w0 k (v + ((k - N : Nat) : Int) * st) := fun k hk => by
      have := h.rch.add (hr (k - N))
      rw [show N + (k - N) = k by omega] at this
      exact this
    by_cases h0 : g - v = 0
    · rw [if_pos h0]
      have : g = v := by omega
      subst this
      exact wh_of h.rch hn
    · rw [if_neg h0]
      by_cases hc : whC ⟨v, none, st⟩ g = true
      · rw [if_pos hc]
        obtain ⟨hst, j, hj, e1, ed, _⟩ := (whC_iff _ _).mp hc
        have e1 : g = v + j * st := e1
        have ed : (g - v).fdiv st = j := ed
        have hst : st ≠ 0 := hst
        show Wh s w0 g (some ((N : Int) + (g - v).fdiv st))
        rw [ed, show ((N : Int) + (j : Int)) = ((N + j : Nat) : Int) by push_cast; rfl]
        refine wh_of ?_ fun k hk hr' => ?_
        · rw [e1]
          exact h.rch.add (hr j)
        · by_cases hkN : k < N
          · exact hn k hkN hr'
          · have := hr'.det (at_ k hkN)
            rw [e1] at this
            have := run_inj hst this
            omega
      · rw [if_neg hc]
        refine .inr ⟨rfl, fun n hb => ?_⟩
        have hb := endless_bh he hb
        by_cases hkN : n < N
        · exact hn n hkN hb
        · exact hc (whC_of (j := n - N) h0 (hb.det (at_ n hkN)) (fun m' hm' => by cases hm'))
theorem whL_last {s : St} {w0 : Int} {rs : List Rn} {N : Nat} {v st : Int} (h : Chain s w0 rs N v) (m : Nat) (hm : 1 ≤ m) (hr : ∀ j : Nat, j < m → Rch s v j (v + j * st)) (he : Ends s w0 (N + m) (v + m * st)) (g : Int) : Wh s w0 g (whL (rs ++ [⟨v, some (m : Int), st⟩] ++ [Rn.fin (v + m * st)]) 0 g) := by
  rw [List.append_assoc]
  rcases whL_chain h ([⟨v, some (m : Int), st⟩] ++ [Rn.fin (v + m * st)]) g with ⟨n, e, hr', hn⟩ | ⟨e, hn⟩
  · rw [e]
    exact wh_of hr' hn
  · rw [e, show [(⟨v, some (m : Int), st⟩ : Rn)] ++ [Rn.fin (v + m * st)] = ⟨v, some (m : Int), st⟩ :: [Rn.fin (v + m * st)] from rfl, whL]
    have at_ : ∀ k, ¬ k < N → k ≤ N + m → Bh s w0 k (v + ((k - N : Nat) : Int) * st) := fun k hk hk2 => by
      by_cases hl : k - N < m
      · have := h.rch.add (hr (k - N) hl)
        rw [show N + (k - N) = k by omega] at this
        exact .inl this
      · have := ends_bh he
        rw [show N + m = k by omega, show (m : Int) = ((k - N : Nat) : Int) by omega] at this
        exact this
    have no := chain_no h.rch hn
    by_cases h0 : g - v = 0
    · rw [if_pos h0]
      have : g = v := by omega
      subst this
      exact wh_of h.rch hn
    · rw [if_neg h0]
      by_cases hc : whC ⟨v, some (m : Int), st⟩ g = true
      · rw [if_pos hc]
        obtain ⟨hst, j, hj, e1, ed, hjm⟩ := (whC_iff _ _).mp hc
        have hjm : (j : Int) ≤ m := hjm m rfl
        have e1 : g = v + j * st := e1
        have ed : (g - v).fdiv st = j := ed
        have hst : st ≠ 0 := hst
        show Wh s w0 g (some ((N : Int) + (g - v).fdiv st))
        rw [ed, show ((N : Int) + (j : Int)) = ((N + j : Nat) : Int) by push_cast; rfl]
        refine .inl ⟨N + j, rfl, ?_, fun k hk hb => ?_⟩
        · have := at_ (N + j) (by omega) (by omega)
          rw [show N + j - N = j by omega, ← e1] at this
          exact this
        · by_cases hkN : k < N
          · exact no k hkN hb
          · have := hb.det (at_ k hkN (by omega))
            rw [e1] at this
            have := run_inj hst this
            omega
      · rw [if_neg hc, whL]
        have none_ : ∀ n, ¬ Bh s w0 n g := fun n hb => by
          by_cases hkN : n < N
          · exact no n hkN hb
          · by_cases hl : n ≤ N + m
            · exact hc (whC_of (j := n - N) h0 (hb.det (at_ n hkN hl)) (fun m' hm' => by cases hm'; omega))
            · exact ends_no he (by omega) hb
        rw [if_neg (fun z => none_ (N + m) (by
          have z : g - (v + m * st) = 0 := z
          rw [show g = v + m * st by omega]
          exact ends_bh he)), if_neg (by rw [whC_iff]; exact fun z => z.1 rfl)]
        exact .inr ⟨rfl, none_⟩
theorem ring_mod {s : St} {w0 : Int} {a N : Nat} {v : Int} (h1 : Rch s w0 a v) (h2 : Rch s w0 N v) (ha : a < N) {t : Nat} (ht : a ≤ t) {x : Int} (h : Rch s w0 (a + (t - a) % (N - a)) x) : Rch s w0 t x := by
  have p := rch_rest h1 h2 (by omega)
  have h3 := rch_rest h1 h (by omega)
  have := (h1.add (rch_loop p ((t - a) / (N - a)))).add h3
  rw [show a + (t - a) / (N - a) * (N - a) + (a + (t - a) % (N - a) - a) = t by
    have := Nat.mod_add_div (t - a) (N - a)
    rw [Nat.mul_comm] at this
    omega] at this
  exact this
theorem whL_ring {s : St} {w0 : Int} {rs : List Rn} {N : Nat} {v : Int} (h : Chain s w0 rs N v) (hv : ∃ r ∈ rs, r.b = v) (he : Endless s w0) (g : Int) : Wh s w0 g (whL (rs ++ [Rn.fin v]) 0 g) := by
  obtain ⟨r, hr, hb⟩ := hv
  obtain ⟨a, ha, hra⟩ := h.start r hr
  rw [hb] at hra
  rcases whL_chain h [Rn.fin v] g with ⟨n, e, hr', hn⟩ | ⟨e, hn⟩
  · rw [e]
    exact wh_of hr' hn
  · rw [e, whL]
    have h0 : ¬ g - (Rn.fin v).b = 0 := fun z => by
      have z : g - v = 0 := z
      exact hn a ha (by rw [show g = v by omega]; exact hra)
    rw [if_neg h0, if_neg (by rw [whC_iff]; exact fun z => z.1 rfl)]
    refine .inr ⟨rfl, fun n hb => ?_⟩
    have hb := endless_bh he hb
    by_cases hl : n < N
    · exact hn n hl hb
    · have hm : (n - a) % (N - a) < N - a := Nat.mod_lt _ (by omega)
      obtain ⟨y, hy⟩ := he (a + (n - a) % (N - a))
      have := ring_mod hra h.rch ha (t := n) (by omega) hy
      rw [hb.det this] at hn
      exact hn _ (by omega) hy
theorem wh_out {s : St} {w0 : Int} {out : List Rn} (h : Out s w0 out) (g : Int) : Wh s w0 g (whL out 0 g) := by
  cases h with
  | stop hc hg => exact whL_stop hc hg g
  | ring hc hg hp hv he => exact whL_ring hc hv he g
  | far hc hr he => exact whL_far hc hr he g
  | last hc m hm hr hp he => exact whL_last hc m hm hr he g
end Pure

set_option linter.all false
set_option Elab.async false
set_option maxRecDepth 100000
set_option maxHeartbeats 1000000
/-! The plain law: behind and when_at, as the program tells them. -/
namespace Pure
open PySem Mi Mir
theorem x_modA {a b : Int} (h : b ≠ 0) : dMod (.int a) (.int b) = some (.int (a.fmod b)) := by
  rcases Int.lt_or_gt_of_ne h with h1 | h1
  · exact x_modN h1
  · rw [x_modI h1, Int.fmod_eq_emod_of_nonneg a (by omega)]
theorem x_divA {a b : Int} (h : b ≠ 0) (h2 : b.natAbs < 2 ^ 1000) : dDiv (.int a) (.int b) = some (.int (a.fdiv b)) := by
  rcases Int.lt_or_gt_of_ne h with h1 | h1
  · exact x_divN h1 h2
  · rw [x_divI h1 (by omega), Int.fdiv_eq_ediv_of_nonneg a (by omega)]
theorem runs_st {s : St} (hu : Up s) (hb : Bnd s) : ∀ (n : Nat) (rs : List Rn) (w : Int) (out : List Rn), runsO s n rs w = some out → -(10 ^ 32) ≤ w → w ≤ 10 ^ 32 → (∀ r ∈ rs, r.st.natAbs < 2 ^ 1000) → ∀ r ∈ out, r.st.natAbs < 2 ^ 1000
  | n + 1, rs, w, out, e, h1, h2, hr => by
    have z : (0 : Int).natAbs < 2 ^ 1000 := by decide
    unfold runsO at e
    split at e
    · cases e
      intro r hr'
      rcases List.mem_append.mp hr' with h | h
      · exact hr r h
      · rw [List.mem_singleton.mp h]; exact z
    · rename_i p hp
      have hp : (if inWalk s.wk w = true then pieceOf s.ps w else none) = some p := hp
      split at hp
      · have hmem := (pieceOf_mem hp).1
        have hst := step_bnd hb hmem h1 h2
        split at e
        · cases e
          intro r hr'
          rcases List.mem_append.mp hr' with h | h
          · exact hr r h
          · rw [List.mem_singleton.mp h]; exact z
        · split at e
          · cases e
            intro r hr'
            rcases List.mem_append.mp hr' with h | h
            · exact hr r h
            · rw [List.mem_singleton.mp h]; exact hst
          · rename_i m hm
            have hr2 : ∀ r ∈ rs ++ [(⟨w, some m, stepOf p w⟩ : Rn)], r.st.natAbs < 2 ^ 1000 := fun r hr' => by
              rcases List.mem_append.mp hr' with h | h
              · exact hr r h
              · rw [List.mem_singleton.mp h]; exact hst
            split at e
            · rename_i hag
              have nb := next_bnd hu hb hmem h1 h2 hm hag
              exact runs_st hu hb n _ _ out e nb.1 nb.2 hr2
            · cases e
              intro r hr'
              rcases List.mem_append.mp hr' with h | h
              · exact hr2 r h
              · rw [List.mem_singleton.mp h]; exact z
      · cases hp
theorem chain_m {s : St} {w0 : Int} {rs : List Rn} {N : Nat} {v : Int} (h : Chain s w0 rs N v) : ∀ r ∈ rs, ∀ m, r.m = some m → 0 ≤ m := by
  induction h with
  | nil => intro r hr; cases hr
  | @snoc rs N v h m hm st hr ih =>
    intro r hr' k hk
    rcases List.mem_append.mp hr' with h1 | h1
    · exact ih r h1 k hk
    · rw [List.mem_singleton.mp h1] at hk
      cases hk
      omega
theorem out_m {s : St} {w0 : Int} {out : List Rn} (h : Out s w0 out) : ∀ r ∈ out, ∀ m, r.m = some m → 0 ≤ m := by
  have fin0 : ∀ (v : Int) (k : Int), (Rn.fin v).m = some k → 0 ≤ k := fun v k e => by cases e; decide
  intro r hr k hk
  cases h with
  | stop hc _ =>
    rcases List.mem_append.mp hr with h1 | h1
    · exact chain_m hc r h1 k hk
    · rw [List.mem_singleton.mp h1] at hk; exact fin0 _ _ hk
  | ring hc _ _ _ _ =>
    rcases List.mem_append.mp hr with h1 | h1
    · exact chain_m hc r h1 k hk
    · rw [List.mem_singleton.mp h1] at hk; exact fin0 _ _ hk
  | far hc _ _ =>
    rcases List.mem_append.mp hr with h1 | h1
    · exact chain_m hc r h1 k hk
    · rw [List.mem_singleton.mp h1] at hk; cases hk
  | last hc m hm _ _ _ =>
    rcases List.mem_append.mp hr with h1 | h1
    · rcases List.mem_append.mp h1 with h2 | h2
      · exact chain_m hc r h2 k hk
      · rw [List.mem_singleton.mp h2] at hk; cases hk; omega
    · rw [List.mem_singleton.mp h1] at hk; exact fin0 _ _ hk
def bbody : SF := (sSeq (sIf (eOr (eIsN (eVar 8)) (eOp dLe (eVar 2) (eVar 8))) (sRet (eOp dAdd (eVar 7) (eOp dMul (eVar 2) (eVar 9)))) sNil)
    (sAsg 2 (eOp dSub (eVar 2) (eVar 8))))
theorem bloop : ∀ (l : List Rn), (∀ r ∈ l, r.st.natAbs < 2 ^ 1000 ∧ ∀ m, r.m = some m → 0 ≤ m) → ∀ (t : Int) (x0 x1 x3 x4 x5 x6 x7 x8 x9 x10 : Option W) (μ : Sto), 0 ≤ t → t ≤ 10 ^ 32 →
    (match forL (Mi.tTup [(tName 7), (tName 8), (tName 9)]) bbody (l.map Rn.d) [x0, x1, some (.d (.int t)), x3, x4, x5, x6, x7, x8, x9, x10] μ with | .nx ρ1 μ1 => sRet eNon ρ1 μ1 | r => r) = .rt (.d (oD (bhL l t))) μ
  | [], _, t, x0, x1, x3, x4, x5, x6, x7, x8, x9, x10, μ, _, _ => rfl
  | r :: l, hl, t, x0, x1, x3, x4, x5, x6, x7, x8, x9, x10, μ, h0, h1 => by
    have hr := hl r List.mem_cons_self
    have mul : dMul (.int t) (.int r.st) = some (.int (t * r.st)) := mul_mid (small_nat (by omega) (by omega)) hr.1
    have tg : Mi.tTup [(tName 7), (tName 8), (tName 9)] r.d [x0, x1, some (.d (.int t)), x3, x4, x5, x6, x7, x8, x9, x10] = some [x0, x1, some (.d (.int t)), x3, x4, x5, x6, some (.d (.int r.b)), some (.d (oD r.m)), some (.d (.int r.st)), x10] := rfl
    rw [List.map_cons, forL]
    simp only [tg]
    unfold bhL
    cases hm : r.m with
    | none =>
      have e : bbody [x0, x1, some (.d (.int t)), x3, x4, x5, x6, some (.d (.int r.b)), some (.d (oD none)), some (.d (.int r.st)), x10] μ = .rt (.d (.int (r.b + t * r.st))) μ := by
        unfold bbody
        simp [mul]
      rw [e]
      rfl
    | some m =>
      have hm0 := hr.2 m hm
      by_cases hc : t ≤ m
      · have e : bbody [x0, x1, some (.d (.int t)), x3, x4, x5, x6, some (.d (.int r.b)), some (.d (oD (some m))), some (.d (.int r.st)), x10] μ = .rt (.d (.int (r.b + t * r.st))) μ := by
          unfold bbody
          simp [mul, hc]
        rw [e]
        simp [hc]
      · have e : bbody [x0, x1, some (.d (.int t)), x3, x4, x5, x6, some (.d (.int r.b)), some (.d (oD (some m))), some (.d (.int r.st)), x10] μ = .nx [x0, x1, some (.d (.int (t - m))), x3, x4, x5, x6, some (.d (.int r.b)), some (.d (oD (some m))), some (.d (.int r.st)), x10] μ := by
          unfold bbody
          simp [hc]
        rw [e]
        dsimp only
        rw [bloop l (fun r hr => hl r (List.mem_cons_of_mem _ hr)) (t - m) x0 x1 x3 x4 x5 x6 _ _ _ x10 μ (by omega) (by omega), if_neg hc]
theorem cut_to {l : List D} {k : Nat} (h : k ≤ l.length) : cutL l none (some (k : Int)) = l.take k := by
  have e : six l.length l.length (some (k : Int)) = k := by
    show (if (k : Int) < 0 then ((k : Int) + (l.length : Int)).toNat else min (k : Int).toNat l.length) = k
    rw [if_neg (by omega), Int.toNat_natCast]
    omega
  show (l.drop 0).take (six l.length l.length (some (k : Int)) - 0) = _
  rw [e, List.drop_zero, Nat.sub_zero]
theorem cut_from {l : List D} {k : Nat} (h : k ≤ l.length) : cutL l (some (k : Int)) none = l.drop k := by
  have e : six l.length 0 (some (k : Int)) = k := by
    show (if (k : Int) < 0 then ((k : Int) + (l.length : Int)).toNat else min (k : Int).toNat l.length) = k
    rw [if_neg (by omega), Int.toNat_natCast]
    omega
  show (l.drop (six l.length 0 (some (k : Int)))).take (l.length - six l.length 0 (some (k : Int))) = _
  rw [e, List.take_of_length_le (by rw [List.length_drop]; omega)]
theorem fidx_mem {ini : List Rn} {b : Int} {k : Nat} {t : List Nat} (h : fidx ini b = k :: t) : ∃ r, ini[k]? = some r ∧ r.b = b := by
  have : k ∈ fidx ini b := by rw [h]; exact List.mem_cons_self
  unfold fidx at this
  have := (List.mem_filter.mp this).2
  unfold sameB at this
  split at this
  · rename_i r hr
    exact ⟨r, hr, by simpa using this⟩
  · cases this
theorem sums_lc (L : List Rn) (ρ : Mi.Env) (hρ : ρ.length = 11) (μ : Sto) : lcL (tName 10) eYes (eOp dIx (eVar 10) (eInt 1)) ρ (L.map Rn.d) [] μ = .ok (.d (.list (L.map fun r => oD r.m))) μ := by
  rw [lc_mapT Rn.d (fun r => oD r.m) L [] fun r hr => ⟨_, rfl, rfl, ?_⟩]
  · rfl
  · have i1 : dIx r.d (.int 1) = some (oD r.m) := rfl
    simp [hρ, i1]
theorem beh_shape : F_behind_of = (sSeq (sAsg 3 (eCall g_runs_of (aCons (eVar 0) (aCons (eVar 1) aNil))))
    (sSeq (sIf (eCall g_goes_round (aCons (eVar 0) (aCons (eVar 3) aNil))) (sSeq (sAsg 4 (eCall g_round_at (aCons (eVar 3) aNil)))
    (sSeq (sAsg 5 (eBlt bSum (aCons (eLc [10] (tName 10) (iSeq (eSl dCut (eVar 3) none (some (eVar 4)))) eYes (eOp dIx (eVar 10) (eInt 1))) aNil)))
    (sSeq (sAsg 6 (eBlt bSum (aCons (eLc [10] (tName 10) (iSeq (eSl dCut (eVar 3) (some (eVar 4)) none)) eYes (eOp dIx (eVar 10) (eInt 1))) aNil)))
    (sAsg 2 (eIf (eOp dLt (eVar 2) (eVar 5)) (eVar 2) (eOp dAdd (eVar 5) (eOp dMod (eOp dSub (eVar 2) (eVar 5)) (eVar 6)))))))) sNil)
    (sSeq (sFor (Mi.tTup [(tName 7), (tName 8), (tName 9)]) (iSeq (eVar 3)) bbody)
    (sRet eNon)))) := rfl
theorem behind_of_spec {s : St} (hu : Up s) (hp : Sep s.ps) (hb : Bnd s) {w : Int} (hw1 : -(10 ^ 32) ≤ w) (hw2 : w ≤ 10 ^ 32) {t : Nat} (ht : (t : Int) ≤ 10 ^ 31) (μ : Sto) :
    ∃ o : Option Int, g_behind_of [.d s.d, .d (.int w), .d (.int (t : Int))] μ = .ok (.d (oD o)) μ ∧ ∀ x, o = some x ↔ Bh s w t x := by
  have f : ∀ b : D, fin μ.length (.rt (.d b) μ) = .ok (.d b) μ := fun b => x_fin _ _ _ rfl
  obtain ⟨out, e⟩ := runs_all hu hp w
  have ro := runs_out hu hp 26 [] 0 w out .nil e
  have rsp := runs_spec hu hb hw1 hw2 e μ
  have ol := runs_len 26 [] w out e
  simp only [List.length_nil] at ol
  have hl : ∀ r ∈ out, r.st.natAbs < 2 ^ 1000 ∧ ∀ m, r.m = some m → 0 ≤ m := fun r hr => ⟨runs_st hu hb 26 [] w out e hw1 hw2 (fun r hr => by cases hr) r hr, out_m ro r hr⟩
  have plain : ∀ (ini : List Rn) (z : Rn), out = ini ++ [z] → g_goes_round [.d s.d, .d (.list ((ini ++ [z]).map Rn.d))] μ = .ok (.d (.bool false)) μ → g_behind_of [.d s.d, .d (.int w), .d (.int (t : Int))] μ = .ok (.d (oD (bhL out t))) μ := fun ini z eo hg => by
    rw [← eo] at hg
    rw [show g_behind_of = fnOf 3 11 F_behind_of from rfl, fnOf3, beh_shape]
    rw [x_sSeq, x_sAsg]
    simp only [x_eCall, x_aCons, x_aNil, x_eVar, List.getElem?_cons_zero, List.getElem?_cons_succ, R.bind_ok, rsp, R.bindS_ok, List.replicate, Nat.reduceSub, List.set_cons_succ, List.set_cons_zero]
    rw [x_sSeq, x_sIf]
    simp only [x_eCall, x_aCons, x_aNil, x_eVar, List.getElem?_cons_zero, List.getElem?_cons_succ, R.bind_ok, hg, RS.test_ok, Bool.false_eq_true, if_false, x_sNil]
    rw [x_sSeq, x_sFor, x_iSeq]
    simp only [x_eVar, List.getElem?_cons_zero, List.getElem?_cons_succ, R.bind_ok, items, ofO_some, R.bindS_ok]
    exact (congrArg (fin μ.length) (bloop out hl t _ _ _ _ _ _ _ _ _ _ μ (by omega) (by omega))).trans (f _)
  cases ro with
  | @stop rs N v hc hg =>
    refine ⟨_, plain rs (Rn.fin v) rfl ?_, fun x => bhL_stop hc hg t x⟩
    rw [goes_round_spec s rs (by simp at ol; omega) (Rn.fin v) μ]
    have : fidx rs (Rn.fin v).b = [] := fidx_nil fun r hr hb => by
      obtain ⟨a, ha, har⟩ := hc.start r hr
      have al := (hc.rch.alive ha har).1
      have hb : r.b = v := hb
      rw [hb, hg] at al
      cases al
    rw [this]
    simp [Rn.fin]
  | @far rs N v st hc hr he =>
    refine ⟨_, plain rs ⟨v, none, st⟩ rfl ?_, fun x => bhL_far hc hr t x⟩
    rw [goes_round_spec s rs (by simp at ol; omega) ⟨v, none, st⟩ μ]
    simp
  | @last rs N v st hc m hm hr hnp he =>
    refine ⟨_, plain (rs ++ [⟨v, some (m : Int), st⟩]) (Rn.fin (v + m * st)) rfl ?_, fun x => bhL_last hc m hm hr he t x⟩
    rw [goes_round_spec s _ (by simp at ol ⊢; omega) (Rn.fin (v + m * st)) μ]
    have : isPl s.wk = false := by
      cases hk : s.wk with
      | place => exact absurd hk hnp
      | _ => rfl
    rw [this]
    rfl
  | @ring rs N v hc hg hpl hv he =>
    have ol2 : rs.length ≤ 900 := by simp at ol; omega
    obtain ⟨k, tl, hk⟩ := fidx_cons (ini := rs) (b := (Rn.fin v).b) hv
    obtain ⟨r, hkr, hrb⟩ := fidx_mem hk
    have hrb : r.b = v := hrb
    have hkl : k < rs.length := (List.getElem?_eq_some_iff.mp hkr).1
    obtain ⟨a, s1, s2, haN, r', hkr', hra⟩ := chain_at hc k hkl
    rw [hkr] at hkr'
    cases hkr'
    rw [hrb] at hra
    have gr := goes_round_spec s rs ol2 (Rn.fin v) μ
    rw [hk, hpl] at gr
    have gr : g_goes_round [.d s.d, .d (.list ((rs ++ [Rn.fin v]).map Rn.d))] μ = .ok (.d (.bool true)) μ := gr
    have ra := round_at_spec rs ol2 (Rn.fin v) μ
    rw [hk] at ra
    have ra : g_round_at [.d (.list ((rs ++ [Rn.fin v]).map Rn.d))] μ = .ok (.d (.int (k : Nat))) μ := ra
    have c1 : dCut (.list ((rs ++ [Rn.fin v]).map Rn.d)) none (some (k : Int)) = some (.list ((rs.take k).map Rn.d)) := by
      show some (PyData.list (cutL _ _ _)) = _
      rw [cut_to (by rw [List.length_map, List.length_append]; omega), ← List.map_take, List.take_append_of_le_length (by omega)]
    have c2 : dCut (.list ((rs ++ [Rn.fin v]).map Rn.d)) (some (k : Int)) none = some (.list ((rs.drop k ++ [Rn.fin v]).map Rn.d)) := by
      show some (PyData.list (cutL _ _ _)) = _
      rw [cut_from (by rw [List.length_map, List.length_append]; omega), ← List.map_drop, List.drop_append_of_le_length (by omega)]
    have b1 : bSum [.list ((rs.take k).map fun r => oD r.m)] = some (.int (a : Int)) := by
      show (sumI _).map PyData.int = _
      rw [s1]
      rfl
    have b2 : bSum [.list ((rs.drop k ++ [Rn.fin v]).map fun r => oD r.m)] = some (.int ((N : Int) - a)) := by
      show (sumI _).map PyData.int = _
      rw [sumD _ v s2]
      rfl
    obtain ⟨t', ht', et, hlt⟩ : ∃ t' : Nat, (t' < N) ∧ ((if (t : Int) < a then (t : Int) else (a : Int) + ((t : Int) - a) % ((N : Int) - a)) = (t' : Int)) ∧ ((t < a ∧ t' = t) ∨ (a ≤ t ∧ t' = a + (t - a) % (N - a))) := by
      by_cases hta : t < a
      · exact ⟨t, by omega, by rw [if_pos (by omega)], .inl ⟨hta, rfl⟩⟩
      · have hm : (t - a) % (N - a) < N - a := Nat.mod_lt _ (by omega)
        refine ⟨a + (t - a) % (N - a), by omega, ?_, .inr ⟨by omega, rfl⟩⟩
        rw [if_neg (by omega), show (t : Int) - a = ((t - a : Nat) : Int) by omega, show (N : Int) - a = ((N - a : Nat) : Int) by omega]
        push_cast
        rfl
    have ev : (∀ (ρ : Mi.Env), ρ[2]? = some (some (.d (.int (t : Int)))) → ρ[5]? = some (some (.d (.int (a : Int)))) → ρ[6]? = some (some (.d (.int ((N : Int) - a)))) →
        eIf (eOp dLt (eVar 2) (eVar 5)) (eVar 2) (eOp dAdd (eVar 5) (eOp dMod (eOp dSub (eVar 2) (eVar 5)) (eVar 6))) ρ μ = .ok (.d (.int (t' : Int))) μ) := fun ρ h2 h5 h6 => by
      have md := x_modI (a := (t : Int) - a) (b := (N : Int) - a) (by omega)
      rw [← et]
      by_cases hta : (t : Int) < a
      · rw [if_pos hta]
        simp [h2, h5, h6, hta]
      · rw [if_neg hta]
        simp [h2, h5, h6, hta, md]
    obtain ⟨x, ex, hx⟩ : ∃ x, bhL (rs ++ [Rn.fin v]) t' = some x ∧ Rch s w t' x := by
      rcases bhL_chain hc [Rn.fin v] t' with h | h
      · exact h
      · omega
    have hbx : Bh s w t x := by
      rcases hlt with ⟨_, rfl⟩ | ⟨h1, rfl⟩
      · exact .inl hx
      · exact .inl (ring_mod hra hc.rch haN h1 hx)
    refine ⟨some x, ?_, fun y => ⟨fun h => by cases h; exact hbx, fun h => by rw [h.det hbx]⟩⟩
    rw [show g_behind_of = fnOf 3 11 F_behind_of from rfl, fnOf3, beh_shape]
    rw [x_sSeq, x_sAsg]
    simp only [x_eCall, x_aCons, x_aNil, x_eVar, List.getElem?_cons_zero, List.getElem?_cons_succ, R.bind_ok, rsp, R.bindS_ok, List.replicate, Nat.reduceSub, List.set_cons_succ, List.set_cons_zero]
    rw [x_sSeq, x_sIf]
    simp only [x_eCall, x_aCons, x_aNil, x_eVar, List.getElem?_cons_zero, List.getElem?_cons_succ, R.bind_ok, gr, RS.test_ok, if_true]
    rw [x_sSeq, x_sAsg]
    simp only [x_eCall, x_aCons, x_aNil, x_eVar, List.getElem?_cons_zero, List.getElem?_cons_succ, R.bind_ok, ra, R.bindS_ok, List.set_cons_succ, List.set_cons_zero]
    rw [x_sSeq, x_sAsg, x_eBlt, x_aCons, x_eLc, x_iSeq, x_eSl]
    simp only [x_eVar, x_part0, x_part1, List.getElem?_cons_zero, List.getElem?_cons_succ, R.bind_ok, view_d, Option.bind_some, c1, Option.map_some, ofO_some, items]
    rw [sums_lc _ _ (by simp [wipeE])]
    simp only [x_aNil, R.bind_ok, x_views0, x_views1, view_d, Option.bind_some, Option.map_some, b1, ofO_some, R.bindS_ok, List.set_cons_succ, List.set_cons_zero]
    rw [x_sSeq, x_sAsg, x_eBlt, x_aCons, x_eLc, x_iSeq, x_eSl]
    simp only [x_eVar, x_part0, x_part1, List.getElem?_cons_zero, List.getElem?_cons_succ, R.bind_ok, view_d, Option.bind_some, c2, Option.map_some, ofO_some, items]
    rw [sums_lc _ _ (by simp [wipeE])]
    simp only [x_aNil, R.bind_ok, x_views0, x_views1, view_d, Option.bind_some, Option.map_some, b2, ofO_some, R.bindS_ok, List.set_cons_succ, List.set_cons_zero]
    rw [x_sAsg, ev _ rfl rfl rfl]
    simp only [R.bindS_ok, List.set_cons_succ, List.set_cons_zero]
    rw [x_sSeq, x_sFor, x_iSeq]
    simp only [x_eVar, List.getElem?_cons_zero, List.getElem?_cons_succ, R.bind_ok, items, ofO_some, R.bindS_ok]
    have bl := bloop _ hl t' (some (.d s.d)) (some (.d (.int w))) (some (.d (.list ((rs ++ [Rn.fin v]).map Rn.d)))) (some (.d (.int (k : Nat)))) (some (.d (.int (a : Int)))) (some (.d (.int ((N : Int) - a)))) none none none none μ (by omega) (by
      rcases hlt with ⟨_, rfl⟩ | ⟨h1, rfl⟩
      · omega
      · have := Nat.mod_le (t - a) (N - a)
        omega)
    rw [ex] at bl
    exact (congrArg (fin μ.length) bl).trans (f _)
/-! ### when -/
def wcnd : EF := (eAnd (eOp dNe (eVar 6) (eInt 0)) (eAnd (eOp dEq (eOp dMod (eVar 7) (eVar 6)) (eInt 0)) (eAnd (eOp dGt (eOp dDiv (eVar 7) (eVar 6)) (eInt 0)) (eOr (eIsN (eVar 5)) (eOp dLe (eOp dDiv (eVar 7) (eVar 6)) (eVar 5))))))
def wbody : SF := (sSeq (sAsg 7 (eOp dSub (eVar 2) (eVar 4)))
    (sSeq (sIf (eOp dEq (eVar 7) (eInt 0)) (sRet (eVar 3)) sNil)
    (sSeq (sIf wcnd (sRet (eOp dAdd (eVar 3) (eOp dDiv (eVar 7) (eVar 6)))) sNil)
    (sAsg 3 (eOp dAdd (eVar 3) (eIf (eNotN (eVar 5)) (eVar 5) (eInt 0)))))))
theorem wcnd_ok (r : Rn) (hr : r.st.natAbs < 2 ^ 1000) (g : Int) (x0 x1 x2 x3 x4 : Option W) (μ : Sto) : wcnd [x0, x1, x2, x3, x4, some (.d (oD r.m)), some (.d (.int r.st)), some (.d (.int (g - r.b)))] μ = .ok (.d (.bool (whC r g))) μ := by
  have bo : ∀ p : Prop, [Decidable p] → (!decide p) = decide (¬ p) := fun p _ => by simp
  unfold wcnd whC
  by_cases h0 : r.st = 0
  · have q : (r.st == 0) = true := by rw [h0]; rfl
    simp [dNeI, q, h0]
  · have q : (r.st == 0) = false := beq_eq_false_iff_ne.mpr h0
    have md := x_modA (a := g - r.b) h0
    have dv := x_divA (a := g - r.b) h0 hr
    by_cases h1 : (g - r.b).fmod r.st = 0
    · have q1 : ((g - r.b).fmod r.st == 0) = true := by rw [h1]; rfl
      by_cases h2 : 0 < (g - r.b).fdiv r.st
      · cases hm : r.m with
        | none => simp [dNeI, q, h0, md, dEqI, q1, h1, dv, h2]
        | some m => simp [dNeI, q, h0, md, dEqI, q1, h1, dv, h2]
      · simp [dNeI, q, h0, md, dEqI, q1, h1, dv, h2]
    · have q1 : ((g - r.b).fmod r.st == 0) = false := beq_eq_false_iff_ne.mpr h1
      simp [dNeI, q, h0, md, dEqI, q1, h1]
theorem wloop : ∀ (l : List Rn), (∀ r ∈ l, r.st.natAbs < 2 ^ 1000) → ∀ (g done : Int) (x0 x1 x4 x5 x6 x7 : Option W) (μ : Sto),
    (match forL (Mi.tTup [(tName 4), (tName 5), (tName 6)]) wbody (l.map Rn.d) [x0, x1, some (.d (.int g)), some (.d (.int done)), x4, x5, x6, x7] μ with | .nx ρ1 μ1 => sRet eNon ρ1 μ1 | r => r) = .rt (.d (oD (whL l done g))) μ
  | [], _, g, done, x0, x1, x4, x5, x6, x7, μ => rfl
  | r :: l, hl, g, done, x0, x1, x4, x5, x6, x7, μ => by
    have hr := hl r List.mem_cons_self
    have tg : Mi.tTup [(tName 4), (tName 5), (tName 6)] r.d [x0, x1, some (.d (.int g)), some (.d (.int done)), x4, x5, x6, x7] = some [x0, x1, some (.d (.int g)), some (.d (.int done)), some (.d (.int r.b)), some (.d (oD r.m)), some (.d (.int r.st)), x7] := rfl
    have wc := wcnd_ok r hr g x0 x1 (some (.d (.int g))) (some (.d (.int done))) (some (.d (.int r.b))) μ
    rw [List.map_cons, forL]
    simp only [tg]
    unfold whL
    by_cases h0 : g - r.b = 0
    · have q : (g - r.b == 0) = true := by rw [h0]; rfl
      have e : wbody [x0, x1, some (.d (.int g)), some (.d (.int done)), some (.d (.int r.b)), some (.d (oD r.m)), some (.d (.int r.st)), x7] μ = .rt (.d (.int done)) μ := by
        unfold wbody
        simp [dEqI, q]
      rw [e, if_pos h0]
      rfl
    · have q : (g - r.b == 0) = false := beq_eq_false_iff_ne.mpr h0
      rw [if_neg h0]
      cases hc : whC r g with
      | true =>
        rw [hc] at wc
        have dv := x_divA (a := g - r.b) (show r.st ≠ 0 from ((whC_iff r g).mp hc).1) hr
        have e : wbody [x0, x1, some (.d (.int g)), some (.d (.int done)), some (.d (.int r.b)), some (.d (oD r.m)), some (.d (.int r.st)), x7] μ = .rt (.d (.int (done + (g - r.b).fdiv r.st))) μ := by
          unfold wbody
          rw [x_sSeq, x_sAsg]
          simp only [x_eOp, x_eVar, List.getElem?_cons_zero, List.getElem?_cons_succ, R.bind_ok, view_d, Option.bind_some, x_subI, Option.map_some, ofO_some, R.bindS_ok, List.set_cons_succ, List.set_cons_zero]
          rw [x_sSeq, x_sIf]
          simp only [x_eOp, x_eVar, x_eInt, List.getElem?_cons_zero, List.getElem?_cons_succ, R.bind_ok, view_d, Option.bind_some, dEqI, q, Option.map_some, ofO_some, RS.test_ok, Bool.false_eq_true, if_false, x_sNil]
          rw [x_sSeq, x_sIf, wc]
          simp [dv]
        rw [e, if_pos rfl]
        rfl
      | false =>
        rw [hc] at wc
        have e : wbody [x0, x1, some (.d (.int g)), some (.d (.int done)), some (.d (.int r.b)), some (.d (oD r.m)), some (.d (.int r.st)), x7] μ = .nx [x0, x1, some (.d (.int g)), some (.d (.int (done + r.m.getD 0))), some (.d (.int r.b)), some (.d (oD r.m)), some (.d (.int r.st)), some (.d (.int (g - r.b)))] μ := by
          unfold wbody
          rw [x_sSeq, x_sAsg]
          simp only [x_eOp, x_eVar, List.getElem?_cons_zero, List.getElem?_cons_succ, R.bind_ok, view_d, Option.bind_some, x_subI, Option.map_some, ofO_some, R.bindS_ok, List.set_cons_succ, List.set_cons_zero]
          rw [x_sSeq, x_sIf]
          simp only [x_eOp, x_eVar, x_eInt, List.getElem?_cons_zero, List.getElem?_cons_succ, R.bind_ok, view_d, Option.bind_some, dEqI, q, Option.map_some, ofO_some, RS.test_ok, Bool.false_eq_true, if_false, x_sNil]
          rw [x_sSeq, x_sIf, wc]
          cases hm : r.m <;> simp
        rw [e, if_neg Bool.false_ne_true]
        dsimp only
        exact wloop l (fun r hr => hl r (List.mem_cons_of_mem _ hr)) g _ x0 x1 _ _ _ _ μ
theorem whn_shape : F_when_of = (sSeq (sAsg 3 (eInt 0))
    (sSeq (sFor (Mi.tTup [(tName 4), (tName 5), (tName 6)]) (iSeq (eCall g_runs_of (aCons (eVar 0) (aCons (eVar 1) aNil)))) wbody)
    (sRet eNon))) := rfl
theorem when_of_spec {s : St} (hu : Up s) (hp : Sep s.ps) (hb : Bnd s) {w : Int} (hw1 : -(10 ^ 32) ≤ w) (hw2 : w ≤ 10 ^ 32) (g : Int) (μ : Sto) :
    ∃ o : Option Int, g_when_of [.d s.d, .d (.int w), .d (.int g)] μ = .ok (.d (oD o)) μ ∧ Wh s w g o := by
  have f : ∀ b : D, fin μ.length (.rt (.d b) μ) = .ok (.d b) μ := fun b => x_fin _ _ _ rfl
  obtain ⟨out, e⟩ := runs_all hu hp w
  have ro := runs_out hu hp 26 [] 0 w out .nil e
  have rsp := runs_spec hu hb hw1 hw2 e μ
  refine ⟨whL out 0 g, ?_, wh_out ro g⟩
  rw [show g_when_of = fnOf 3 8 F_when_of from rfl, fnOf3, whn_shape]
  rw [x_sSeq, x_sAsg]
  simp only [x_eInt, R.bindS_ok, List.replicate, Nat.reduceSub, List.set_cons_succ, List.set_cons_zero]
  rw [x_sSeq, x_sFor, x_iSeq]
  simp only [x_eCall, x_aCons, x_aNil, x_eVar, List.getElem?_cons_zero, List.getElem?_cons_succ, R.bind_ok, rsp, items, ofO_some, R.bindS_ok]
  exact (congrArg (fin μ.length) (wloop out (runs_st hu hb 26 [] w out e hw1 hw2 (fun r hr => by cases hr)) g 0 _ _ _ _ _ _ μ)).trans (f _)
/-! ### turned about -/
theorem bh_turn {s : St} (h : Sep s.ps) {w v : Int} {n : Nat} (b : Bh (rise s) w n v) : Bh s (signI s * w) n (signI s * v) := by
  rcases b with r | ⟨k, u, rfl, r, g, rfl⟩
  · exact .inl (rch_turn h r)
  · exact .inr ⟨k, signI s * u, rfl, rch_turn h r, by rw [← go_turn h]; exact g, by rw [nxt_turn h, sign_sq]⟩
theorem bh_back {s : St} (h : Sep s.ps) {w v : Int} {n : Nat} (b : Bh s w n v) : Bh (rise s) (signI s * w) n (signI s * v) := by
  rcases b with r | ⟨k, u, rfl, r, g, rfl⟩
  · exact .inl (rch_back h r)
  · exact .inr ⟨k, signI s * u, rfl, rch_back h r, by rw [go_turn h, sign_sq]; exact g, by rw [nxt_turn h, sign_sq]⟩
theorem bh_iff {s : St} (h : Sep s.ps) {w v : Int} {n : Nat} : Bh (rise s) (signI s * w) n v ↔ Bh s w n (signI s * v) :=
  ⟨fun b => by have := bh_turn h b; rw [sign_sq] at this; exact this, fun b => by have := bh_back h b; rw [sign_sq] at this; exact this⟩
theorem wh_turn {s : St} (h : Sep s.ps) {w g : Int} {o : Option Int} (b : Wh (rise s) (signI s * w) (signI s * g) o) : Wh s w g o := by
  rcases b with ⟨n, e, b1, b2⟩ | ⟨e, b2⟩
  · refine .inl ⟨n, e, ?_, fun k hk hb => b2 k hk ?_⟩
    · have := (bh_iff h).mp b1; rw [sign_sq] at this; exact this
    · rw [bh_iff h, sign_sq]; exact hb
  · exact .inr ⟨e, fun n hb => b2 n (by rw [bh_iff h, sign_sq]; exact hb)⟩
theorem needt_d (d : D) (μ : Sto) : g_need_times [.d d] μ = if wholeD d 0 far = true then .ok (.d .none) μ else .er ⟨"InvalidNumber", none⟩ μ := by
  have w := whole_spec d 0 far μ
  unfold far at w
  rw [show g_need_times = fnOf 1 1 F_need_times from rfl, fnOf1]
  cases h : wholeD d 0 far with
  | true => unfold far at h; rw [h] at w; simp [F_need_times, w, fin]
  | false => unfold far at h; rw [h] at w; simp [F_need_times, w, fin]
theorem behind_spec {s : St} (h : StOk s) {w : Int} (hw1 : -far ≤ w) (hw2 : w ≤ far) {t : Nat} (ht : (t : Int) ≤ far) (μ : Sto) :
    ∃ o : Option Int, g_behind [.d s.d, .d (.int w), .d (.int (t : Int))] μ = .ok (.d (oD o)) μ ∧ ∀ x, o = some x ↔ Bh s w t x := by
  have f : ∀ b : D, fin μ.length (.rt (.d b) μ) = .ok (.d b) μ := fun b => x_fin _ _ _ rfl
  have hf : far = 10 ^ 30 := rfl
  have sp := sep_of h.ch
  have n1 := needst_ok (sh_std s) (fitsSt_ok h) μ
  have n2 := needw_d (.int w) μ
  rw [whole_far hw1 hw2, if_pos rfl] at n2
  have n3 := needt_d (.int (t : Int)) μ
  rw [show wholeD (.int (t : Int)) 0 far = true by simp [wholeD, ht], if_pos rfl] at n3
  have sg := sign_of_spec (s := s) μ
  have ri := risen_spec (s := s) μ
  have hs1 : signI s = 1 ∨ signI s = -1 := by unfold signI; split; exact .inr rfl; exact .inl rfl
  have mul : ∀ x : Int, dMul (.int (signI s)) (.int x) = some (.int (signI s * x)) := fun x => x_mulI (mulOk_l (by rcases hs1 with e | e <;> rw [e] <;> decide))
  have hsw : -(10 ^ 32) ≤ signI s * w ∧ signI s * w ≤ 10 ^ 32 := by rcases hs1 with e | e <;> rw [e] <;> omega
  obtain ⟨o, e, ho⟩ := behind_of_spec (up_rise h) (sep_rise sp) (bnd_of h) hsw.1 hsw.2 (t := t) (by omega) μ
  refine ⟨o.map (signI s * ·), ?_, fun x => ?_⟩
  · rw [show g_behind = fnOf 3 4 F_behind from rfl, fnOf3]
    unfold F_behind
    cases o with
    | none =>
      have e : g_behind_of [.d (rise s).d, .d (.int (signI s * w)), .d (.int (t : Int))] μ = .ok (.d .none) μ := e
      simp [n1, n2, n3, sg, ri, mul, e, f]
    | some y =>
      have e : g_behind_of [.d (rise s).d, .d (.int (signI s * w)), .d (.int (t : Int))] μ = .ok (.d (.int y)) μ := e
      simp [n1, n2, n3, sg, ri, mul, e, f]
  · cases o with
    | none =>
      refine ⟨fun hx => by simp at hx, fun hb => ?_⟩
      have := (ho (signI s * x)).mpr (bh_back sp hb)
      cases this
    | some y =>
      have hy := (bh_iff sp).mp ((ho y).mp rfl)
      refine ⟨fun hx => ?_, fun hb => ?_⟩
      · simp at hx
        rw [← hx]
        exact hy
      · rw [hb.det hy]
        rfl
theorem when_spec {s : St} (h : StOk s) {w : Int} (hw1 : -far ≤ w) (hw2 : w ≤ far) {g : Int} (hg1 : -far ≤ g) (hg2 : g ≤ far) (μ : Sto) :
    ∃ o : Option Int, g_when_at [.d s.d, .d (.int w), .d (.int g)] μ = .ok (.d (oD o)) μ ∧ Wh s w g o := by
  have f : ∀ b : D, fin μ.length (.rt (.d b) μ) = .ok (.d b) μ := fun b => x_fin _ _ _ rfl
  have hf : far = 10 ^ 30 := rfl
  have sp := sep_of h.ch
  have n1 := needst_ok (sh_std s) (fitsSt_ok h) μ
  have n2 := needw_d (.int w) μ
  rw [whole_far hw1 hw2, if_pos rfl] at n2
  have n3 := needw_d (.int g) μ
  rw [whole_far hg1 hg2, if_pos rfl] at n3
  have sg := sign_of_spec (s := s) μ
  have ri := risen_spec (s := s) μ
  have hs1 : signI s = 1 ∨ signI s = -1 := by unfold signI; split; exact .inr rfl; exact .inl rfl
  have mul : ∀ x : Int, dMul (.int (signI s)) (.int x) = some (.int (signI s * x)) := fun x => x_mulI (mulOk_l (by rcases hs1 with e | e <;> rw [e] <;> decide))
  have hsw : -(10 ^ 32) ≤ signI s * w ∧ signI s * w ≤ 10 ^ 32 := by rcases hs1 with e | e <;> rw [e] <;> omega
  obtain ⟨o, e, ho⟩ := when_of_spec (up_rise h) (sep_rise sp) (bnd_of h) hsw.1 hsw.2 (signI s * g) μ
  refine ⟨o, ?_, wh_turn sp ho⟩
  rw [show g_when_at = fnOf 3 3 F_when_at from rfl, fnOf3]
  unfold F_when_at
  simp [n1, n2, n3, sg, ri, mul, e, f]
theorem behind_st {d : D} (hs : SeqAt.shaped d = true) (hf : fitsSt d = false) (w t : D) (μ : Sto) : g_behind [.d d, .d w, .d t] μ = .er ⟨"InvalidStatement", none⟩ μ := by
  have n1 := needst_no hs hf μ
  rw [show g_behind = fnOf 3 4 F_behind from rfl, fnOf3]
  simp [F_behind, n1, fin]
theorem behind_w {s : St} (h : StOk s) {d : D} (hw : wholeD d (-far) far = false) (t : D) (μ : Sto) : g_behind [.d s.d, .d d, .d t] μ = .er ⟨"InvalidWorth", none⟩ μ := by
  have n1 := needst_ok (sh_std s) (fitsSt_ok h) μ
  have n2 := needw_d d μ
  rw [hw, if_neg Bool.false_ne_true] at n2
  rw [show g_behind = fnOf 3 4 F_behind from rfl, fnOf3]
  simp [F_behind, n1, n2, fin]
theorem behind_t {s : St} (h : StOk s) {w : Int} (hw1 : -far ≤ w) (hw2 : w ≤ far) {d : D} (hd : wholeD d 0 far = false) (μ : Sto) : g_behind [.d s.d, .d (.int w), .d d] μ = .er ⟨"InvalidNumber", none⟩ μ := by
  have n1 := needst_ok (sh_std s) (fitsSt_ok h) μ
  have n2 := needw_d (.int w) μ
  rw [whole_far hw1 hw2, if_pos rfl] at n2
  have n3 := needt_d d μ
  rw [hd, if_neg Bool.false_ne_true] at n3
  rw [show g_behind = fnOf 3 4 F_behind from rfl, fnOf3]
  simp [F_behind, n1, n2, n3, fin]
theorem when_st {d : D} (hs : SeqAt.shaped d = true) (hf : fitsSt d = false) (w t : D) (μ : Sto) : g_when_at [.d d, .d w, .d t] μ = .er ⟨"InvalidStatement", none⟩ μ := by
  have n1 := needst_no hs hf μ
  rw [show g_when_at = fnOf 3 3 F_when_at from rfl, fnOf3]
  simp [F_when_at, n1, fin]
theorem when_w {s : St} (h : StOk s) {d : D} (hw : wholeD d (-far) far = false) (t : D) (μ : Sto) : g_when_at [.d s.d, .d d, .d t] μ = .er ⟨"InvalidWorth", none⟩ μ := by
  have n1 := needst_ok (sh_std s) (fitsSt_ok h) μ
  have n2 := needw_d d μ
  rw [hw, if_neg Bool.false_ne_true] at n2
  rw [show g_when_at = fnOf 3 3 F_when_at from rfl, fnOf3]
  simp [F_when_at, n1, n2, fin]
theorem when_g {s : St} (h : StOk s) {w : Int} (hw1 : -far ≤ w) (hw2 : w ≤ far) {d : D} (hd : wholeD d (-far) far = false) (μ : Sto) : g_when_at [.d s.d, .d (.int w), .d d] μ = .er ⟨"InvalidWorth", none⟩ μ := by
  have n1 := needst_ok (sh_std s) (fitsSt_ok h) μ
  have n2 := needw_d (.int w) μ
  rw [whole_far hw1 hw2, if_pos rfl] at n2
  have n3 := needw_d d μ
  rw [hd, if_neg Bool.false_ne_true] at n3
  rw [show g_when_at = fnOf 3 3 F_when_at from rfl, fnOf3]
  simp [F_when_at, n1, n2, n3, fin]
end Pure

set_option linter.all false
set_option Elab.async false
set_option maxRecDepth 100000
set_option maxHeartbeats 1000000
/-! The plain law: what fits is a statement. -/
namespace Pure
open PySem Mi Mir
theorem end_conv {a : D} (h : endD a = true) : ∃ o, EndOk o ∧ a = oD o := by
  cases hn : isNonD a with
  | true =>
    have : a = .none := by cases a <;> simp [isNonD] at hn; rfl
    exact ⟨none, fun i e => by (cases e), this⟩
  | false =>
    obtain ⟨i, rfl, h1, h2⟩ := end_int h hn
    exact ⟨some i, fun j e => by cases e; exact ⟨h1, h2⟩, rfl⟩
theorem ends_conv {a b : D} (h : endsD a b = true) : ∃ o p, EndOk o ∧ EndOk p ∧ (∀ i j, o = some i → p = some j → i ≤ j) ∧ a = oD o ∧ b = oD p := by
  obtain ⟨o, h1, rfl⟩ := end_conv (ends_parts h).1
  obtain ⟨p, h2, rfl⟩ := end_conv (ends_parts h).2
  refine ⟨o, p, h1, h2, fun i j e1 e2 => ?_, rfl, rfl⟩
  subst e1 e2
  simp [endsD, isNonD, leD] at h
  exact h.2.2
theorem piece_conv {d : D} (h : pieceD d = true) : ∃ p, PcOk p ∧ d = p.d := by
  obtain ⟨a, b, w, c, rfl, h1, h2, h3⟩ := piece_form h
  obtain ⟨o, p, e1, e2, e3, rfl, rfl⟩ := ends_conv h1
  obtain ⟨v, rfl, h4, h5⟩ := whole_int h2
  rcases h3 with rfl | ⟨rfl, h3⟩
  · exact ⟨⟨o, p, true, v⟩, ⟨e1, e2, e3, h4, h5, fun z => by cases z⟩, rfl⟩
  · exact ⟨⟨o, p, false, v⟩, ⟨e1, e2, e3, h4, h5, fun _ => by simpa [nzD] using h3⟩, rfl⟩
theorem pieces_conv : ∀ {l : List D}, (∀ x ∈ l, pieceD x = true) → ∃ ps : List Pc, (∀ p ∈ ps, PcOk p) ∧ l = ps.map Pc.d
  | [], _ => ⟨[], (fun p hp => by cases hp), rfl⟩
  | d :: r, h => by
    obtain ⟨p, hp, rfl⟩ := piece_conv (h d List.mem_cons_self)
    obtain ⟨ps, hps, rfl⟩ := pieces_conv fun x hx => h x (List.mem_cons_of_mem _ hx)
    refine ⟨p :: ps, fun q hq => ?_, rfl⟩
    rcases List.mem_cons.mp hq with rfl | hq
    · exact hp
    · exact hps q hq
theorem ap_conv : ∀ {ps : List Pc}, apAll (ps.map Pc.d) = true → Apart ps
  | [], _ => True.intro
  | [_], _ => True.intro
  | p :: q :: r, h => by
    have h : (apD p.d q.d && apAll ((q :: r).map Pc.d)) = true := h
    rw [Bool.and_eq_true] at h
    refine ⟨?_, ap_conv h.2⟩
    have h1 := h.1
    unfold Pc.d apD at h1
    obtain ⟨lo, hi, s, b⟩ := p
    obtain ⟨lo', hi', s', b'⟩ := q
    cases hi with
    | none => simp [isNonD] at h1
    | some i =>
      cases lo' with
      | none => simp [isNonD] at h1
      | some j => exact ⟨i, j, rfl, rfl, by simpa [isNonD, ltD] using h1⟩
theorem ch_conv {l : List D} (h : fitsCh (.tuple l) = true) : ∃ ps, ChOk ps ∧ l = ps.map Pc.d := by
  simp only [fitsCh, Bool.and_eq_true, decide_eq_true_eq, List.all_eq_true] at h
  obtain ⟨⟨h1, h4⟩, h2, h3⟩ := h
  obtain ⟨ps, hp, rfl⟩ := pieces_conv h2
  rw [List.length_map] at h1 h4
  exact ⟨ps, ⟨h1, h4, hp, ap_conv h3⟩, rfl⟩
theorem oneway_conv {ps : List Pc} (h : onewayL (ps.map Pc.d) = true) : OneWay ps := by
  unfold onewayL at h
  have fl : (ps.map Pc.d).filter isAdd = (ps.filter fun p => !p.set).map Pc.d := by
    rw [List.filter_map]
    congr 1
    exact List.filter_congr fun p _ => isAdd_d p
  rw [fl] at h
  simp only [Bool.or_eq_true, Bool.not_eq_true', List.any_eq_false, List.mem_map] at h
  rcases h with h | h
  · refine .inr fun p hp hs => ?_
    have := h p.d ⟨p, List.mem_filter.mpr ⟨hp, by simp [hs]⟩, rfl⟩
    simp [Pc.d, upD] at this
    omega
  · refine .inl fun p hp hs => ?_
    have := h p.d ⟨p, List.mem_filter.mpr ⟨hp, by simp [hs]⟩, rfl⟩
    simp [Pc.d, upD] at this
    omega
theorem st_conv {d : D} (h : fitsSt d = true) : ∃ s, StOk s ∧ d = s.d := by
  unfold fitsSt at h
  split at h
  · rename_i l w
    simp only [Bool.and_eq_true, Bool.or_eq_true, Bool.not_eq_true'] at h
    obtain ⟨h1, h2, h3⟩ := h
    obtain ⟨ps, hc, rfl⟩ := ch_conv h1
    unfold walkD at h2
    split at h2
    · rename_i x r
      by_cases w1 : x = "first"
      · subst w1
        have h2 : r.isEmpty = true := h2
        rw [List.isEmpty_iff] at h2
        subst h2
        exact ⟨⟨ps, .first⟩, ⟨hc, True.intro⟩, rfl⟩
      · by_cases w2 : x = "place"
        · subst w2
          have h2 : r.isEmpty = true := h2
          rw [List.isEmpty_iff] at h2
          subst h2
          rcases h3 with h3 | h3
          · cases h3
          · exact ⟨⟨ps, .place⟩, ⟨hc, oneway_conv h3⟩, rfl⟩
        · have hud : x = "up" ∨ x = "down" := by
            by_cases w3 : x = "up"
            · exact .inl w3
            · by_cases w4 : x = "down"
              · exact .inr w4
              · simp [w1, w2, w3, w4] at h2
          have h2 : endsL r = true := by rcases hud with rfl | rfl <;> exact h2
          unfold endsL at h2
          split at h2
          · rename_i lo hi
            obtain ⟨o, p, e1, e2, e3, rfl, rfl⟩ := ends_conv h2
            rcases hud with rfl | rfl
            · exact ⟨⟨ps, .way true o p⟩, ⟨hc, e1, e2, e3⟩, rfl⟩
            · exact ⟨⟨ps, .way false o p⟩, ⟨hc, e1, e2, e3⟩, rfl⟩
          · cases h2
    · cases h2
  · cases h
end Pure

set_option linter.all false
set_option Elab.async false
set_option maxRecDepth 100000
set_option maxHeartbeats 1000000
/-! The plain law: a statement on another scale does the same, block by block. No program here. -/
namespace Pure
open PySem Mi Mir
def isDown : Wk → Bool
  | .way false _ _ => true
  | _ => false
def restOf (c : Int) (k : Wk) : Int := if isDown k then c - 1 else 0
def scLo (c e : Int) (o : Option Int) : Option Int := o.map fun i => i * c + e
def scHi (c e : Int) (o : Option Int) : Option Int := o.map fun i => i * c + c - 1 + e
def Pc.sc (c e r : Int) (p : Pc) : Pc := ⟨scLo c e p.lo, scHi c e p.hi, p.set, if p.set then p.by_ * c + r + e else p.by_ * c⟩
def Wk.sc (c e : Int) : Wk → Wk
  | .way u lo hi => .way u (scLo c e lo) (scHi c e hi)
  | k => k
def St.sc (c e : Int) (s : St) : St := ⟨s.ps.map (Pc.sc c e (restOf c s.wk)), s.wk.sc c e⟩
/-- a worth in the block of a small one -/
def Blk (c e v V : Int) : Prop := v * c + e ≤ V ∧ V ≤ v * c + c - 1 + e
theorem mul_lt {a b c : Int} (hc : 1 ≤ c) (h : a < b) : a * c + c ≤ b * c := by
  have : (a + 1) * c ≤ b * c := Int.mul_le_mul_of_nonneg_right (by omega) (by omega)
  rw [Int.add_mul, Int.one_mul] at this
  exact this
theorem mul_le {a b c : Int} (hc : 1 ≤ c) (h : a ≤ b) : a * c ≤ b * c := Int.mul_le_mul_of_nonneg_right h (by omega)
theorem sc_leO {c e v V : Int} (hc : 1 ≤ c) (hb : Blk c e v V) (o : Option Int) : leO (scLo c e o) V = leO o v := by
  cases o with
  | none => rfl
  | some i =>
    show decide (i * c + e ≤ V) = decide (i ≤ v)
    obtain ⟨h1, h2⟩ := hb
    by_cases h : i ≤ v
    · have := mul_le hc h
      rw [decide_eq_true h, decide_eq_true (by omega)]
    · have := mul_lt hc (show v < i by omega)
      rw [decide_eq_false h, decide_eq_false (by omega)]
theorem sc_geO {c e v V : Int} (hc : 1 ≤ c) (hb : Blk c e v V) (o : Option Int) : geO (scHi c e o) V = geO o v := by
  cases o with
  | none => rfl
  | some i =>
    show decide (V ≤ i * c + c - 1 + e) = decide (v ≤ i)
    obtain ⟨h1, h2⟩ := hb
    by_cases h : v ≤ i
    · have := mul_le hc h
      rw [decide_eq_true h, decide_eq_true (by omega)]
    · have := mul_lt hc (show i < v by omega)
      rw [decide_eq_false h, decide_eq_false (by omega)]
theorem sc_hasB {c e v V : Int} (hc : 1 ≤ c) (hb : Blk c e v V) (a b : Option Int) : hasB (scLo c e a) (scHi c e b) V = hasB a b v := by
  unfold hasB
  rw [sc_leO hc hb, sc_geO hc hb]
theorem sc_piece {c e r v V : Int} (hc : 1 ≤ c) (hb : Blk c e v V) : ∀ ps : List Pc, pieceOf (ps.map (Pc.sc c e r)) V = (pieceOf ps v).map (Pc.sc c e r)
  | [] => rfl
  | p :: ps => by
    have h := sc_hasB hc hb p.lo p.hi
    have ih := sc_piece (r := r) hc hb ps
    unfold pieceOf at ih ⊢
    rw [List.map_cons, List.find?_cons, List.find?_cons]
    have e1 : hasB (Pc.sc c e r p).lo (Pc.sc c e r p).hi V = hasB p.lo p.hi v := h
    cases hh : hasB p.lo p.hi v with
    | true => simp [e1, hh]
    | false => simp [e1, hh, ih]
theorem sc_met {c e v V : Int} (hc : 1 ≤ c) (hb : Blk c e v V) (s : St) : metI (s.sc c e) V = metI s v := by
  unfold metI St.sc
  cases hk : s.wk with
  | first => rfl
  | place => rfl
  | way u lo hi => exact sc_hasB hc hb lo hi
theorem sc_go {c e v V : Int} (hc : 1 ≤ c) (hb : Blk c e v V) (s : St) : goB (s.sc c e) V = goB s v := by
  unfold goB
  rw [sc_met hc hb]
  show (metI s v && (pieceOf (s.ps.map (Pc.sc c e (restOf c s.wk))) V).isSome) = _
  rw [sc_piece hc hb]
  simp
theorem rest_b {c : Int} (hc : 1 ≤ c) (k : Wk) : 0 ≤ restOf c k ∧ restOf c k ≤ c - 1 := by
  unfold restOf
  split <;> omega
theorem sc_nxt {c e v V : Int} (hc : 1 ≤ c) (hb : Blk c e v V) (s : St) : Blk c e (nxt s v) (nxt (s.sc c e) V) := by
  have hr := rest_b hc s.wk
  unfold nxt changedI
  show Blk c e _ (made (pieceOf (s.ps.map (Pc.sc c e (restOf c s.wk))) V) V)
  rw [sc_piece hc hb]
  cases hp : pieceOf s.ps v with
  | none => exact hb
  | some p =>
    obtain ⟨h1, h2⟩ := hb
    rw [Option.map_some]
    cases hs : p.set with
    | true =>
      rw [made_set hs, made_set (show (Pc.sc c e (restOf c s.wk) p).set = true from hs)]
      show Blk c e p.by_ (if p.set = true then p.by_ * c + restOf c s.wk + e else p.by_ * c)
      rw [if_pos hs]
      exact ⟨by omega, by omega⟩
    | false =>
      rw [made_add hs, made_add (show (Pc.sc c e (restOf c s.wk) p).set = false from hs)]
      show Blk c e (v + p.by_) (V + if p.set = true then p.by_ * c + restOf c s.wk + e else p.by_ * c)
      rw [if_neg (by rw [hs]; exact Bool.false_ne_true)]
      unfold Blk
      rw [Int.add_mul]
      exact ⟨by omega, by omega⟩
theorem sc_cont {c e v V : Int} (hc : 1 ≤ c) (hb : Blk c e v V) (s : St) : cont (s.sc c e) V (nxt (s.sc c e) V) = cont s v (nxt s v) := by
  obtain ⟨h1, h2⟩ := hb
  have key : ∀ u lo hi, s.wk = .way u lo hi → ((V < nxt (s.sc c e) V ↔ v < nxt s v) ∨ u = false) ∧ ((nxt (s.sc c e) V < V ↔ nxt s v < v) ∨ u = true) := fun u lo hi hk => by
    unfold nxt changedI
    show ((V < made (pieceOf (s.ps.map (Pc.sc c e (restOf c s.wk))) V) V ↔ _) ∨ _) ∧ ((made (pieceOf (s.ps.map (Pc.sc c e (restOf c s.wk))) V) V < V ↔ _) ∨ _)
    rw [sc_piece hc ⟨h1, h2⟩]
    cases hp : pieceOf s.ps v with
    | none =>
      have e1 : made (Option.map (Pc.sc c e (restOf c s.wk)) none) V = V := rfl
      have e2 : made none v = v := rfl
      rw [e1, e2]
      exact ⟨.inl ⟨fun h => by omega, fun h => by omega⟩, .inl ⟨fun h => by omega, fun h => by omega⟩⟩
    | some p =>
      rw [Option.map_some]
      cases hs : p.set with
      | true =>
        rw [made_set hs, made_set (show (Pc.sc c e (restOf c s.wk) p).set = true from hs)]
        have eb : (Pc.sc c e (restOf c s.wk) p).by_ = p.by_ * c + restOf c s.wk + e := if_pos hs
        rw [eb]
        cases u with
        | true =>
          have er : restOf c s.wk = 0 := by rw [hk]; rfl
          rw [er]
          refine ⟨.inl ⟨fun h => ?_, fun h => ?_⟩, .inr rfl⟩
          · by_cases hv : v < p.by_
            · exact hv
            · have := mul_le hc (show p.by_ ≤ v by omega)
              omega
          · have := mul_lt hc h
            omega
        | false =>
          have er : restOf c s.wk = c - 1 := by rw [hk]; rfl
          rw [er]
          refine ⟨.inr rfl, .inl ⟨fun h => ?_, fun h => ?_⟩⟩
          · by_cases hv : p.by_ < v
            · exact hv
            · have := mul_le hc (show v ≤ p.by_ by omega)
              omega
          · have := mul_lt hc h
            omega
      | false =>
        rw [made_add hs, made_add (show (Pc.sc c e (restOf c s.wk) p).set = false from hs)]
        have eb : (Pc.sc c e (restOf c s.wk) p).by_ = p.by_ * c := if_neg (by rw [hs]; exact Bool.false_ne_true)
        rw [eb]
        have pos : 0 < p.by_ → 0 < p.by_ * c := fun h => Int.mul_pos h (by omega)
        have neg : p.by_ < 0 → p.by_ * c < 0 := fun h => Int.mul_neg_of_neg_of_pos h (by omega)
        have zer : p.by_ = 0 → p.by_ * c = 0 := fun h => by rw [h, Int.zero_mul]
        rcases Int.lt_trichotomy p.by_ 0 with hz | hz | hz
        · have := neg hz
          exact ⟨.inl ⟨fun h => by omega, fun h => by omega⟩, .inl ⟨fun h => by omega, fun h => by omega⟩⟩
        · have := zer hz
          exact ⟨.inl ⟨fun h => by omega, fun h => by omega⟩, .inl ⟨fun h => by omega, fun h => by omega⟩⟩
        · have := pos hz
          exact ⟨.inl ⟨fun h => by omega, fun h => by omega⟩, .inl ⟨fun h => by omega, fun h => by omega⟩⟩
  unfold cont
  show (match s.wk.sc c e with | .way u _ _ => _ | .place => _ | .first => _) = _
  cases hk : s.wk with
  | first => rfl
  | place => rfl
  | way u lo hi =>
    obtain ⟨k1, k2⟩ := key u lo hi hk
    cases u with
    | true =>
      rcases k1 with k1 | k1
      · show decide (V < nxt (s.sc c e) V) = decide (v < nxt s v)
        exact decide_eq_decide.mpr k1
      · cases k1
    | false =>
      rcases k2 with k2 | k2
      · show decide (nxt (s.sc c e) V < V) = decide (nxt s v < v)
        exact decide_eq_decide.mpr k2
      · cases k2
theorem sc_rch {c e w W : Int} (hc : 1 ≤ c) (hw : Blk c e w W) {s : St} {n : Nat} {v : Int} (h : Rch s w n v) : ∃ V, Rch (s.sc c e) W n V ∧ Blk c e v V := by
  induction h with
  | refl => exact ⟨W, .refl, hw⟩
  | @step n v h g ct ih =>
    obtain ⟨V, hV, hb⟩ := ih
    exact ⟨_, .step hV (by rw [sc_go hc hb]; exact g) (by rw [sc_cont hc hb]; exact ct), sc_nxt hc hb s⟩
theorem sc_back {c e w W : Int} (hc : 1 ≤ c) (hw : Blk c e w W) {s : St} {n : Nat} {V : Int} (h : Rch (s.sc c e) W n V) : ∃ v, Rch s w n v ∧ Blk c e v V := by
  induction h with
  | refl => exact ⟨w, .refl, hw⟩
  | @step n V h g ct ih =>
    obtain ⟨v, hv, hb⟩ := ih
    exact ⟨_, .step hv (by rw [← sc_go hc hb]; exact g) (by rw [← sc_cont hc hb]; exact ct), sc_nxt hc hb s⟩
theorem sc_bh {c e w W : Int} (hc : 1 ≤ c) (hw : Blk c e w W) {s : St} {n : Nat} {v : Int} (h : Bh s w n v) : ∃ V, Bh (s.sc c e) W n V ∧ Blk c e v V := by
  rcases h with h | ⟨k, u, rfl, h, g, rfl⟩
  · obtain ⟨V, h1, h2⟩ := sc_rch hc hw h
    exact ⟨V, .inl h1, h2⟩
  · obtain ⟨U, h1, h2⟩ := sc_rch hc hw h
    exact ⟨_, .inr ⟨k, U, rfl, h1, by rw [sc_go hc h2]; exact g, rfl⟩, sc_nxt hc h2 s⟩
theorem sc_ends {c e w W : Int} (hc : 1 ≤ c) (hw : Blk c e w W) {s : St} {T : Nat} {L : Int} (h : Ends (s.sc c e) W T L) : ∃ l, Ends s w T l ∧ Blk c e l L := by
  rcases h with ⟨h, g⟩ | ⟨n, V, rfl, h, g, ct, rfl⟩
  · obtain ⟨v, h1, h2⟩ := sc_back hc hw h
    exact ⟨v, .inl ⟨h1, by rw [← sc_go hc h2]; exact g⟩, h2⟩
  · obtain ⟨v, h1, h2⟩ := sc_back hc hw h
    exact ⟨_, .inr ⟨n, v, rfl, h1, by rw [← sc_go hc h2]; exact g, by rw [← sc_cont hc h2]; exact ct, rfl⟩, sc_nxt hc h2 s⟩
theorem sc_endless {c e w W : Int} (hc : 1 ≤ c) (hw : Blk c e w W) {s : St} (h : Endless (s.sc c e) W) : Endless s w := fun n => by
  obtain ⟨V, hV⟩ := h n
  obtain ⟨v, hv, _⟩ := sc_back hc hw hV
  exact ⟨v, hv⟩
theorem blk_div {c e v V : Int} (hc : 1 ≤ c) (hb : Blk c e v V) : (V - e) / c = v := by
  obtain ⟨h1, h2⟩ := hb
  have e1 : V - e = (V - e - v * c) + v * c := by omega
  rw [e1, Int.add_mul_ediv_right _ _ (by omega), Int.ediv_eq_zero_of_lt (by omega) (by omega), Int.zero_add]
/-! ### it is a statement -/
theorem sc_ap {c e r : Int} (hc : 1 ≤ c) : ∀ ps : List Pc, Apart ps → Apart (ps.map (Pc.sc c e r))
  | [], _ => True.intro
  | [p], _ => True.intro
  | p :: q :: t, h => by
    obtain ⟨⟨a, b, h1, h2, h3⟩, h4⟩ := h
    refine ⟨⟨a * c + c - 1 + e, b * c + e, ?_, ?_, ?_⟩, sc_ap hc (q :: t) h4⟩
    · show scHi c e p.hi = _
      rw [h1]
      rfl
    · show scLo c e q.lo = _
      rw [h2]
      rfl
    · have := mul_lt hc h3
      omega
theorem sc_bnd {i c e : Int} (hc : 1 ≤ c) (hc2 : c ≤ 10 ^ 27 + 1) (he : -(10 ^ 29) ≤ e ∧ e ≤ 10 ^ 29) (hi : -100 ≤ i ∧ i ≤ 100) : -far ≤ i * c + e ∧ i * c + c - 1 + e ≤ far ∧ -far ≤ i * c ∧ i * c ≤ far := by
  have hf : far = 10 ^ 30 := rfl
  have h1 := mul_le hc hi.1
  have h2 := mul_le hc hi.2
  omega
theorem sc_pc {m c e r : Int} (hm : m ≤ 100) (hc : 1 ≤ c) (hc2 : c ≤ 10 ^ 27 + 1) (he : -(10 ^ 29) ≤ e ∧ e ≤ 10 ^ 29) (hr : 0 ≤ r ∧ r ≤ c - 1) {p : Pc} (h : PcOk p) (hs : PcSm m p) : PcOk (Pc.sc c e r p) := by
  have lo : ∀ i, scLo c e p.lo = some i → ∃ j, p.lo = some j ∧ i = j * c + e := fun i hi => by
    cases hl : p.lo with
    | none => rw [hl] at hi; cases hi
    | some j => rw [hl] at hi; cases hi; exact ⟨j, rfl, rfl⟩
  have hi' : ∀ i, scHi c e p.hi = some i → ∃ j, p.hi = some j ∧ i = j * c + c - 1 + e := fun i hi => by
    cases hl : p.hi with
    | none => rw [hl] at hi; cases hi
    | some j => rw [hl] at hi; cases hi; exact ⟨j, rfl, rfl⟩
  refine ⟨fun i h1 => ?_, fun i h1 => ?_, fun i j h1 h2 => ?_, ?_, ?_, fun h1 => ?_⟩
  · obtain ⟨j, h2, rfl⟩ := lo i h1
    have := hs.lo j h2
    have := sc_bnd hc hc2 he (i := j) (by omega)
    omega
  · obtain ⟨j, h2, rfl⟩ := hi' i h1
    have := hs.hi j h2
    have := sc_bnd hc hc2 he (i := j) (by omega)
    omega
  · obtain ⟨a, h3, rfl⟩ := lo i h1
    obtain ⟨b, h4, rfl⟩ := hi' j h2
    have := mul_le hc (h.le a b h3 h4)
    omega
  · show -far ≤ (if p.set = true then p.by_ * c + r + e else p.by_ * c)
    split
    · rename_i h1
      have := hs.set h1
      have := sc_bnd hc hc2 he (i := p.by_) (by omega)
      omega
    · rename_i h1
      have := hs.add (by simpa using h1)
      have := sc_bnd hc hc2 he (i := p.by_) (by omega)
      omega
  · show (if p.set = true then p.by_ * c + r + e else p.by_ * c) ≤ far
    split
    · rename_i h1
      have := hs.set h1
      have := sc_bnd hc hc2 he (i := p.by_) (by omega)
      omega
    · rename_i h1
      have := hs.add (by simpa using h1)
      have := sc_bnd hc hc2 he (i := p.by_) (by omega)
      omega
  · have h1 : p.set = false := h1
    have := h.add h1
    show (if p.set = true then _ else p.by_ * c) ≠ 0
    rw [if_neg (by rw [h1]; exact Bool.false_ne_true)]
    exact Int.mul_ne_zero this (by omega)
theorem sc_ok {m c e : Int} (hm : m ≤ 100) (hc : 1 ≤ c) (hc2 : c ≤ 10 ^ 27 + 1) (he : -(10 ^ 29) ≤ e ∧ e ≤ 10 ^ 29) {s : St} (h : StOk s) (hs : StSm m s) : StOk (s.sc c e) := by
  have hr := rest_b hc s.wk
  refine ⟨⟨?_, ?_, fun q hq => ?_, sc_ap hc _ h.ch.apart⟩, ?_⟩
  · show 1 ≤ (s.ps.map _).length
    rw [List.length_map]; exact h.ch.one
  · show (s.ps.map _).length ≤ 4
    rw [List.length_map]; exact h.ch.four
  · obtain ⟨p, hp, rfl⟩ := List.mem_map.mp hq
    exact sc_pc hm hc hc2 he hr (h.ch.all p hp) (hs.ps p hp)
  · have hw := h.wk
    show WkOk (s.ps.map (Pc.sc c e (restOf c s.wk))) (s.wk.sc c e)
    cases hk : s.wk with
    | first => exact True.intro
    | place =>
      rw [hk] at hw
      show OneWay _
      rcases hw with hw | hw
      · left
        intro q hq h1
        obtain ⟨p, hp, rfl⟩ := List.mem_map.mp hq
        have h1 : p.set = false := h1
        have := hw p hp h1
        show 0 < (if p.set = true then _ else p.by_ * c)
        rw [if_neg (by rw [h1]; exact Bool.false_ne_true)]
        exact Int.mul_pos this (by omega)
      · right
        intro q hq h1
        obtain ⟨p, hp, rfl⟩ := List.mem_map.mp hq
        have h1 : p.set = false := h1
        have := hw p hp h1
        show (if p.set = true then _ else p.by_ * c) ≤ 0
        rw [if_neg (by rw [h1]; exact Bool.false_ne_true)]
        have := mul_le hc this
        omega
    | way u lo hi =>
      rw [hk] at hw
      have hl := hs.lo u lo hi hk
      refine ⟨fun i h1 => ?_, fun i h1 => ?_, fun i j h1 h2 => ?_⟩
      · cases lo with
        | none => cases h1
        | some a =>
          cases h1
          have := hl.1 a rfl
          have := sc_bnd hc hc2 he (i := a) (by omega)
          show -far ≤ a * c + e ∧ a * c + e ≤ far
          omega
      · cases hi with
        | none => cases h1
        | some b =>
          cases h1
          have := hl.2 b rfl
          have := sc_bnd hc hc2 he (i := b) (by omega)
          show -far ≤ b * c + c - 1 + e ∧ b * c + c - 1 + e ≤ far
          omega
      · cases lo with
        | none => cases h1
        | some a =>
          cases hi with
          | none => cases h2
          | some b =>
            cases h1
            cases h2
            have := mul_le hc (hw.2.2 a b rfl rfl)
            show a * c + e ≤ b * c + c - 1 + e
            omega
end Pure

set_option linter.all false
set_option Elab.async false
set_option maxRecDepth 100000
set_option maxHeartbeats 1000000
/-! The plain law: the law's path and fate. -/
namespace Pure
open PySem Mi Mir
def lcond : EF := (eOp dLt (eBlt bLen (aCons (eVar 4) aNil)) (eInt 300))
def lb1 : SF := (sIf (eOr (eIsN (eCall g__law_piece (aCons (eVar 2) (aCons (eVar 5) aNil)))) (eAnd (eOp dEq (eBlt bLen (aCons (eVar 3) aNil)) (eInt 3)) (eNot (eCall g__law_has (aCons (eOp dIx (eVar 3) (eInt 1)) (aCons (eOp dIx (eVar 3) (eInt 2)) (aCons (eVar 5) aNil))))))) (sRetF (eVar 4)) sNil)
def lb2 : SF := (sIf (eOr (eOp dEq (eOp dIx (eVar 3) (eInt 0)) (eStr "first")) (eOr (eAnd (eOp dEq (eOp dIx (eVar 3) (eInt 0)) (eStr "up")) (eOp dLe (eVar 6) (eVar 5))) (eAnd (eOp dEq (eOp dIx (eVar 3) (eInt 0)) (eStr "down")) (eOp dGe (eVar 6) (eVar 5))))) (sRetF (eVar 4)) sNil)
def lpbody : SF := (sSeq (sAsg 5 (eOp dIx (eVar 4) (eUn dNeg (eInt 1))))
    (sSeq lb1
    (sSeq (sAsg 6 (eCall g__law_changed (aCons (eVar 2) (aCons (eVar 5) aNil))))
    (sSeq (sDrop (eApp (eVar 4) (eVar 6)))
    lb2))))
theorem path_shape : F__law_path = (sSeq (sTgt (Mi.tTup [(tName 2), (tName 3)]) (eVar 0))
    (sSeq (sAsg 4 (eLstM (aCons (eVar 1) aNil)))
    (sSeq (sWhile 1000000 lcond lpbody)
    (sRetF (eVar 4))))) := rfl
theorem lb1_ok {s : St} (x0 x1 x4 x6 : Option W) (w : Int) (μ : Sto) : lb1 [x0, x1, some (.d (.tuple (s.ps.map Pc.d))), some (.d s.wk.d), x4, some (.d (.int w)), x6] μ =
    if goB s w = true then .nx [x0, x1, some (.d (.tuple (s.ps.map Pc.d))), some (.d s.wk.d), x4, some (.d (.int w)), x6] μ else sRetF (eVar 4) [x0, x1, some (.d (.tuple (s.ps.map Pc.d))), some (.d s.wk.d), x4, some (.d (.int w)), x6] μ := by
  have po := lpiece_of_spec s.ps w μ
  unfold lb1 goB metI
  rw [x_sIf]
  cases hp : pieceOf s.ps w with
  | none =>
    rw [hp] at po
    have po : g__law_piece [.d (.tuple (s.ps.map Pc.d)), .d (.int w)] μ = .ok (.d .none) μ := po
    simp only [x_eOr, x_eIsN, x_eCall, x_aCons, x_aNil, x_eVar, List.getElem?_cons_zero, List.getElem?_cons_succ, R.bind_ok, po, x_isN1, R.test_ok, if_true, RS.test_ok, Option.isSome_none, Bool.and_false, Bool.false_eq_true, if_false]
  | some p =>
    rw [hp] at po
    have po : g__law_piece [.d (.tuple (s.ps.map Pc.d)), .d (.int w)] μ = .ok (.d p.d) μ := po
    have nn : isNonW (.d p.d) = false := rfl
    cases hk : s.wk with
    | first =>
      have l : bLen [Wk.d .first] = some (.int 1) := rfl
      simp [po, nn, l, dEqI]
    | place =>
      have l : bLen [Wk.d .place] = some (.int 1) := rfl
      simp [po, nn, l, dEqI]
    | way u lo hi =>
      have l : bLen [Wk.d (.way u lo hi)] = some (.int 3) := rfl
      have i1 : dIx (Wk.d (.way u lo hi)) (.int 1) = some (oD lo) := rfl
      have i2 : dIx (Wk.d (.way u lo hi)) (.int 2) = some (oD hi) := rfl
      have lh := lhas_spec lo hi w μ
      cases hh : hasB lo hi w with
      | true => rw [hh] at lh; simp [po, nn, l, dEqI, i1, i2, lh, hh]
      | false => rw [hh] at lh; simp [po, nn, l, dEqI, i1, i2, lh, hh]
theorem lb2_ok {s : St} (x0 x1 x2 x4 : Option W) (w v : Int) (μ : Sto) : lb2 [x0, x1, x2, some (.d s.wk.d), x4, some (.d (.int w)), some (.d (.int v))] μ =
    if cont s w v = true then .nx [x0, x1, x2, some (.d s.wk.d), x4, some (.d (.int w)), some (.d (.int v))] μ else sRetF (eVar 4) [x0, x1, x2, some (.d s.wk.d), x4, some (.d (.int w)), some (.d (.int v))] μ := by
  unfold lb2 cont
  rw [x_sIf]
  cases hk : s.wk with
  | first =>
    have i0 : dIx (Wk.d .first) (.int 0) = some (.str "first") := rfl
    have q1 : dEq (.str "first") (.str "first") = some (.bool true) := by kernel_rfl
    simp [i0, q1]
  | place =>
    have i0 : dIx (Wk.d .place) (.int 0) = some (.str "place") := rfl
    have q1 : dEq (.str "place") (.str "first") = some (.bool false) := by kernel_rfl
    have q2 : dEq (.str "place") (.str "up") = some (.bool false) := by kernel_rfl
    have q3 : dEq (.str "place") (.str "down") = some (.bool false) := by kernel_rfl
    simp [i0, q1, q2, q3]
  | way u lo hi =>
    have i0 : dIx (Wk.d (.way u lo hi)) (.int 0) = some (.str (wayS u)) := rfl
    have q1 : dEq (.str (wayS u)) (.str "first") = some (.bool false) := by cases u <;> kernel_rfl
    have q2 : dEq (.str (wayS u)) (.str "up") = some (.bool u) := by cases u <;> kernel_rfl
    have q3 : dEq (.str (wayS u)) (.str "down") = some (.bool (!u)) := by cases u <;> kernel_rfl
    cases u with
    | true =>
      by_cases h : w < v
      · have : ¬ v ≤ w := by omega
        simp [i0, q1, q2, q3, h, this]
      · have : v ≤ w := by omega
        simp [i0, q1, q2, q3, h, this]
    | false =>
      by_cases h : v < w
      · have : ¬ w ≤ v := by omega
        simp [i0, q1, q2, q3, h, this]
      · have : w ≤ v := by omega
        simp [i0, q1, q2, q3, h, this]
/-- the state of the loop, and what it keeps -/
def lst (s : St) (x0 x1 : Option W) (k : Nat) (x5 x6 : Option W) : Mi.Env := [x0, x1, some (.d (.tuple (s.ps.map Pc.d))), some (.d s.wk.d), some (.m k), x5, x6]
def lsto (μ : Sto) (path : List Int) : Sto := μ ++ [some (.lst (path.map .int))]
theorem retF_ok {s : St} (x0 x1 x5 x6 : Option W) (μ : Sto) (path : List Int) : sRetF (eVar 4) (lst s x0 x1 μ.length x5 x6) (lsto μ path) = .rt (.d (.list (path.map .int))) (μ ++ [none]) := by
  have ml := ml_last μ (path.map PyData.int)
  have sl := set_last μ (some (Cell.lst (path.map PyData.int))) none
  unfold lst lsto
  simp only [x_sRetF, x_eVar, List.getElem?_cons_zero, List.getElem?_cons_succ, R.bindS_ok, x_view_m, ml, Option.map_some, sl]
theorem while_path {s : St} (x0 x1 : Option W) (μ : Sto) : ∀ (n : Nat) (pre : List Int) (w : Int) (x5 x6 : Option W) (N : Nat), (pre ++ [w]).length + n = 300 → n + 1 ≤ N →
    whileN lcond lpbody N (lst s x0 x1 μ.length x5 x6) (lsto μ (pre ++ [w])) = .rt (.d (.list ((pathL s n (pre ++ [w]) w).map .int))) (μ ++ [none]) ∨
    ∃ y5 y6, whileN lcond lpbody N (lst s x0 x1 μ.length x5 x6) (lsto μ (pre ++ [w])) = .nx (lst s x0 x1 μ.length y5 y6) (lsto μ (pathL s n (pre ++ [w]) w)) := by
  intro n
  induction n with
  | zero =>
    intro pre w x5 x6 N hl hN
    obtain ⟨N, rfl⟩ : ∃ k, N = k + 1 := ⟨N - 1, by omega⟩
    right
    refine ⟨x5, x6, ?_⟩
    have ml := ml_last μ ((pre ++ [w]).map PyData.int)
    have bl : bLen [.list ((pre ++ [w]).map PyData.int)] = some (.int 300) := by
      show some (PyData.int (((pre ++ [w]).map PyData.int).length : Int)) = _
      rw [List.length_map]
      congr 2
      omega
    have hc : lcond (lst s x0 x1 μ.length x5 x6) (lsto μ (pre ++ [w])) = .ok (.d (.bool false)) (lsto μ (pre ++ [w])) := by
      unfold lcond lst lsto
      simp only [x_eOp, x_eBlt, x_aCons, x_aNil, x_eVar, x_eInt, List.getElem?_cons_zero, List.getElem?_cons_succ, R.bind_ok, x_views0, x_views1, x_view_m, ml, Option.map_some, Option.bind_some, bl, ofO_some, view_d, x_ltI]
      rfl
    rw [whileN_go, hc]
    rfl
  | succ n ih =>
    intro pre w x5 x6 N hl hN
    obtain ⟨N, rfl⟩ : ∃ k, N = k + 1 := ⟨N - 1, by omega⟩
    have hpl : (pre ++ [w]).length < 300 := by omega
    have ml := ml_last μ ((pre ++ [w]).map PyData.int)
    have bl : bLen [.list ((pre ++ [w]).map PyData.int)] = some (.int ((pre ++ [w]).length : Nat)) := by
      show some (PyData.int (((pre ++ [w]).map PyData.int).length : Int)) = _
      rw [List.length_map]
    have hc : lcond (lst s x0 x1 μ.length x5 x6) (lsto μ (pre ++ [w])) = .ok (.d (.bool true)) (lsto μ (pre ++ [w])) := by
      unfold lcond lst lsto
      simp only [x_eOp, x_eBlt, x_aCons, x_aNil, x_eVar, x_eInt, List.getElem?_cons_zero, List.getElem?_cons_succ, R.bind_ok, x_views0, x_views1, x_view_m, ml, Option.map_some, Option.bind_some, bl, ofO_some, view_d, x_ltI]
      rw [decide_eq_true (by omega)]
    have il : dIx (.list ((pre ++ [w]).map PyData.int)) (.int (-1)) = some (.int w) := by rw [List.map_append]; exact ixL _ _
    have lc := lchanged_spec s.ps w (lsto μ (pre ++ [w]))
    have hb : lpbody (lst s x0 x1 μ.length x5 x6) (lsto μ (pre ++ [w])) =
        if goB s w = true then (if cont s w (nxt s w) = true then .nx (lst s x0 x1 μ.length (some (.d (.int w))) (some (.d (.int (nxt s w))))) (lsto μ (pre ++ [w] ++ [nxt s w])) else .rt (.d (.list ((pre ++ [w] ++ [nxt s w]).map .int))) (μ ++ [none]))
        else .rt (.d (.list ((pre ++ [w]).map .int))) (μ ++ [none]) := by
      unfold lpbody
      rw [x_sSeq, x_sAsg]
      unfold lst lsto
      simp only [x_eOp, x_eUn, x_eVar, x_eInt, List.getElem?_cons_zero, List.getElem?_cons_succ, R.bind_ok, x_view_m, ml, Option.map_some, view_d, Option.bind_some, x_negI, ofO_some, il, R.bindS_ok, List.set_cons_succ, List.set_cons_zero]
      rw [x_sSeq, lb1_ok]
      cases hg : goB s w with
      | false =>
        have rf := retF_ok (s := s) x0 x1 (some (.d (.int w))) x6 μ (pre ++ [w])
        unfold lst lsto at rf
        simp only [Bool.false_eq_true, if_false, rf]
      | true =>
        simp only [if_true]
        unfold lsto at lc
        rw [x_sSeq, x_sAsg]
        simp only [x_eCall, x_aCons, x_aNil, x_eVar, List.getElem?_cons_zero, List.getElem?_cons_succ, R.bind_ok, lc, R.bindS_ok, List.set_cons_succ, List.set_cons_zero]
        rw [show changedI s.ps w = nxt s w from rfl]
        have sl := set_last μ (some (Cell.lst ((pre ++ [w]).map PyData.int))) (some (Cell.lst ((pre ++ [w] ++ [nxt s w]).map PyData.int)))
        have em : (pre ++ [w]).map PyData.int ++ [.int (nxt s w)] = (pre ++ [w] ++ [nxt s w]).map PyData.int := by simp
        rw [x_sSeq, x_sDrop]
        simp only [x_eApp, x_eVar, List.getElem?_cons_zero, List.getElem?_cons_succ, R.bind_ok, ml]
        rw [if_pos (by rw [List.length_map]; unfold LIM; omega), em, sl, R.bindS_ok]
        dsimp only
        rw [lb2_ok]
        cases hct : cont s w (nxt s w) with
        | true => simp only [if_true]
        | false =>
          have rf := retF_ok (s := s) x0 x1 (some (.d (.int w))) (some (.d (.int (nxt s w)))) μ (pre ++ [w] ++ [nxt s w])
          unfold lst lsto at rf
          simp only [Bool.false_eq_true, if_false, rf]
    rw [whileN_go, hc]
    simp only [RS.test_ok, if_true]
    rw [hb]
    unfold pathL
    cases hg : goB s w with
    | false =>
      left
      simp only [Bool.false_eq_true, if_false]
    | true =>
      simp only [if_true]
      cases hct : cont s w (nxt s w) with
      | false =>
        left
        simp only [Bool.false_eq_true, if_false]
      | true =>
        simp only [if_true]
        exact ih (pre ++ [w]) (nxt s w) _ _ N (by rw [List.length_append, List.length_singleton]; omega) (by omega)
theorem law_path_spec (s : St) (w : Int) (μ : Sto) : g__law_path [.d s.d, .d (.int w)] μ = .ok (.d (.list ((pathL s 299 [w] w).map .int))) μ := by
  have tg : ∀ (x1 x2 x3 x4 x5 x6 : Option W), tTup [tName 2, tName 3] s.d [some (.d s.d), x1, x2, x3, x4, x5, x6] = some [some (.d s.d), x1, some (.d (.tuple (s.ps.map Pc.d))), some (.d s.wk.d), x4, x5, x6] := fun _ _ _ _ _ _ => rfl
  rw [show g__law_path = fnOf 2 7 F__law_path from rfl, fnOf2, path_shape]
  rw [x_sSeq, x_sTgt]
  simp only [x_eVar, List.getElem?_cons_zero, R.bindS_ok, List.replicate, Nat.reduceSub, tg]
  rw [x_sSeq, x_sAsg]
  simp only [x_eLstM, x_aCons, x_aNil, x_eVar, List.getElem?_cons_zero, List.getElem?_cons_succ, R.bind_ok, asDs_cons, asDs_nil, Option.map_some, R.bindS_ok, List.set_cons_succ, List.set_cons_zero]
  rw [x_sSeq, show sWhile 1000000 lcond lpbody = whileN lcond lpbody 1000000 from rfl]
  rcases while_path (s := s) (some (.d s.d)) (some (.d (.int w))) μ 299 [] w none none 1000000 rfl (by decide) with e | ⟨y5, y6, e⟩
  · have e' : whileN lcond lpbody 1000000 [some (.d s.d), some (.d (.int w)), some (.d (.tuple (s.ps.map Pc.d))), some (.d s.wk.d), some (.m μ.length), none, none] (μ ++ [some (.lst [.int w])]) = _ := e
    rw [e']
    simp [fin]
  · have e' : whileN lcond lpbody 1000000 [some (.d s.d), some (.d (.int w)), some (.d (.tuple (s.ps.map Pc.d))), some (.d s.wk.d), some (.m μ.length), none, none] (μ ++ [some (.lst [.int w])]) = _ := e
    rw [e']
    dsimp only
    rw [retF_ok]
    simp [fin]
theorem law_fate_ends {s : St} {w : Int} {T : Nat} {L : Int} (h : Ends s w T L) (hT : T ≤ 298) (μ : Sto) : g__law_fate [.d s.d, .d (.int w)] μ = .ok (.d (.tuple [.int (T : Nat), .int L])) μ := by
  have f : ∀ b : D, fin μ.length (.rt (.d b) μ) = .ok (.d b) μ := fun b => x_fin _ _ _ rfl
  have lp := law_path_spec s w μ
  obtain ⟨l, e1, e2, e3, _⟩ := path_ends (w0 := w) 299 0 [] w T L .refl rfl h (by omega) (fun j v hv => by
    have : j = 0 := by have := (List.getElem?_eq_some_iff.mp hv).1; simp at this; omega
    subst this
    have hv : some w = some v := hv
    cases hv
    exact .inl .refl)
  simp only [List.nil_append] at e1 e3
  rw [e1] at lp
  have bl : bLen [.list (([w] ++ l).map PyData.int)] = some (.int ((T : Int) + 1)) := by
    show some (PyData.int ((([w] ++ l).map PyData.int).length : Int)) = _
    rw [List.length_map, List.length_append, e2]
    congr 2
    simp
    omega
  obtain ⟨ini, d, hd⟩ : ∃ ini d, [w] ++ l = ini ++ [d] := by
    rcases List.eq_nil_or_concat ([w] ++ l) with h0 | ⟨ini, d, h0⟩
    · simp at h0
    · exact ⟨ini, d, by rw [h0, List.concat_eq_append]⟩
  have hL : d = L := e3 d (by rw [hd]; simp)
  subst hL
  rw [hd] at lp bl
  have il : dIx (.list ((ini ++ [d]).map PyData.int)) (.int (-1)) = some (.int d) := by rw [List.map_append]; exact ixL _ _
  have q : ((T : Int) + 1 == 300) = false := beq_eq_false_iff_ne.mpr (by omega)
  have q2 : (T : Int) + 1 - 1 = T := by omega
  rw [show g__law_fate = fnOf 2 3 F__law_fate from rfl, fnOf2]
  unfold F__law_fate
  rw [x_sSeq, x_sAsg]
  simp only [x_eCall, x_aCons, x_aNil, x_eVar, List.getElem?_cons_zero, List.getElem?_cons_succ, R.bind_ok, lp, R.bindS_ok, List.replicate, Nat.reduceSub, List.set_cons_succ, List.set_cons_zero]
  simp only [x_sRet, x_eIf, x_eOp, x_eBlt, x_eUn, x_eTup, x_aCons, x_aNil, x_eVar, x_eInt, List.getElem?_cons_zero, List.getElem?_cons_succ, R.bind_ok, x_views0, x_views1, view_d, Option.map_some, Option.bind_some, bl, ofO_some, dEqI, q, R.test_ok, Bool.false_eq_true, if_false, x_subI, q2, x_negI, il, asDs_cons, asDs_nil, R.bindS_ok]
  exact f _
theorem law_fate_endless {s : St} {w : Int} (h : Endless s w) (μ : Sto) : g__law_fate [.d s.d, .d (.int w)] μ = .ok (.d (.tuple [.none, .none])) μ := by
  have f : ∀ b : D, fin μ.length (.rt (.d b) μ) = .ok (.d b) μ := fun b => x_fin _ _ _ rfl
  have lp := law_path_spec s w μ
  have hl := path_endless 299 [w] w h
  have bl : bLen [.list ((pathL s 299 [w] w).map PyData.int)] = some (.int 300) := by
    show some (PyData.int (((pathL s 299 [w] w).map PyData.int).length : Int)) = _
    rw [List.length_map, hl]
    rfl
  have q : ((300 : Int) == 300) = true := rfl
  rw [show g__law_fate = fnOf 2 3 F__law_fate from rfl, fnOf2]
  unfold F__law_fate
  rw [x_sSeq, x_sAsg]
  simp only [x_eCall, x_aCons, x_aNil, x_eVar, List.getElem?_cons_zero, List.getElem?_cons_succ, R.bind_ok, lp, R.bindS_ok, List.replicate, Nat.reduceSub, List.set_cons_succ, List.set_cons_zero]
  simp only [x_sRet, x_eIf, x_eOp, x_eBlt, x_eUn, x_eTup, x_aCons, x_aNil, x_eVar, x_eInt, x_eNon, List.getElem?_cons_zero, List.getElem?_cons_succ, R.bind_ok, x_views0, x_views1, view_d, Option.map_some, Option.bind_some, bl, ofO_some, dEqI, q, R.test_ok, if_true, asDs_cons, asDs_nil, R.bindS_ok]
  exact f _
/-- by both the same -/
theorem fates_same {s : St} (h : StOk s) {m : Int} (hm : StSm m s) (h0 : 0 ≤ m) (hm2 : m ≤ 170) {w : Int} (hw1 : -61 ≤ w) (hw2 : w ≤ 61) (μ : Sto) : ∃ a b : D, Sh 0 a ∧ Sh 0 b ∧ g_fate [.d s.d, .d (.int w)] μ = .ok (.d (.tuple [a, b])) μ ∧ g__law_fate [.d s.d, .d (.int w)] μ = .ok (.d (.tuple [a, b])) μ := by
  have hf : far = 10 ^ 30 := rfl
  have sp := sep_of h.ch
  have hs1 : signI s = 1 ∨ signI s = -1 := by unfold signI; split; exact .inr rfl; exact .inl rfl
  rcases fate_spec h (w := w) (by omega) (by omega) μ with ⟨T, L, he, e⟩ | ⟨he, e⟩
  · refine ⟨_, _, sh_int _, sh_int _, e, law_fate_ends he ?_ μ⟩
    have back : Ends (rise s) (signI s * w) T (signI s * L) := by
      rcases he with ⟨r, g⟩ | ⟨n, v, rfl, r, g, c, rfl⟩
      · exact .inl ⟨rch_back sp r, by rw [go_turn sp, sign_sq]; exact g⟩
      · refine .inr ⟨n, signI s * v, rfl, rch_back sp r, by rw [go_turn sp, sign_sq]; exact g, ?_, ?_⟩
        · rw [cont_turn, nxt_turn sp, sign_sq, sign_sq]; exact c
        · rw [nxt_turn sp, sign_sq]
    have := ends_short (up_rise h) (sep_rise sp) (sml_rise hm) h0 (w := signI s * w) (by rcases hs1 with e | e <;> rw [e] <;> omega) (by rcases hs1 with e | e <;> rw [e] <;> omega) back
    omega
  · exact ⟨_, _, sh_none, sh_none, e, law_fate_endless he μ⟩
end Pure

set_option linter.all false
set_option Elab.async false
set_option maxRecDepth 100000
set_option maxHeartbeats 1000000
/-! The plain law: the law's path beside behind and when_at. -/
namespace Pure
open PySem Mi Mir
/-- beyond all ends it only rises -/
theorem far_up {s : St} (hu : Up s) (hp : Sep s.ps) {m : Int} (hm : Sml m s) {v : Int} (hv : 61 < v) (c : cont s v (nxt s v) = true) {p : Pc} (h2 : pieceOf s.ps v = some p) (hs : p.set = false) {j : Nat} {u : Int} (hr : Rch s v j u) : v ≤ u ∧ (0 < j → v + p.by_ ≤ u) ∧ 0 < p.by_ := by
  obtain ⟨hmem, hhas⟩ := pieceOf_mem h2
  have hhas2 : leO p.lo v = true ∧ geO p.hi v = true := by simpa [hasB] using hhas
  have ph : p.hi = none := by
    cases hph : p.hi with
    | none => rfl
    | some i =>
      have := hm.hi p hmem i hph
      rw [hph] at hhas2
      have := of_decide_eq_true hhas2.2
      omega
  have hb : 0 < p.by_ := by
    unfold cont at c
    rw [nxt_add h2, made_add hs] at c
    cases hk : s.wk with
    | first => rw [hk] at c; cases c
    | place => exact hu.pl hk p hmem hs
    | way u lo hi =>
      cases u with
      | false => exact absurd hk (hu.wk lo hi)
      | true =>
        rw [hk] at c
        have := of_decide_eq_true (show decide (v < v + p.by_) = true from c)
        omega
  have low : ∀ {j : Nat} {u : Int}, Rch s v j u → v ≤ u := fun {j u} hr => by
    induction hr with
    | refl => exact Int.le_refl _
    | @step n u h g c' ih =>
      have pu := hp.in_ h2 ih (by rw [ph]; rfl)
      rw [nxt_add pu, made_add hs]
      omega
  refine ⟨low hr, fun hj => ?_, hb⟩
  cases hr with
  | refl => omega
  | @step n u h g c' =>
    have hvu := low h
    have pu := hp.in_ h2 hvu (by rw [ph]; rfl)
    rw [nxt_add pu, made_add hs]
    omega
theorem high_first {s : St} (hu : Up s) (hp : Sep s.ps) {m : Int} (hm : Sml m s) {w : Int} (hw : w ≤ 61) {n : Nat} {g : Int} (h : Rch s w n g) {i : Nat} {x : Int} (hi : i ≤ n) (hx : Rch s w i x) : x ≤ 61 ∨ x ≤ 61 + m ∨ x ≤ g := by
  cases hx with
  | refl => exact .inl hw
  | @step i v hv gv c =>
    obtain ⟨p, hpc⟩ := go_piece gv
    obtain ⟨hmem, _⟩ := pieceOf_mem hpc
    cases hs : p.set with
    | true =>
      left
      rw [nxt_add hpc, made_set hs]
      exact (hm.set p hmem hs).2
    | false =>
      by_cases hv61 : 61 < v
      · right; right
        have hr := rch_rest hv h (by omega)
        have := far_up hu hp hm hv61 c hpc hs hr
        have h2 := this.2.1 (by omega)
        rw [nxt_add hpc, made_add hs]
        exact h2
      · right; left
        have := hm.add p hmem hs
        rw [nxt_add hpc, made_add hs]
        omega
theorem pts_first {s : St} {w : Int} {N : Nat} {g : Int} (hN : Rch s w N g) (hf : ∀ k, k < N → ¬ Rch s w k g) {n : Nat} {v : Int} (h : Rch s w n v) (hn : n ≤ N) : ∃ l : List Int, l.length = n ∧ l.Nodup ∧ ∀ x ∈ l, ∃ i, i < n ∧ Rch s w i x := by
  induction h with
  | refl => exact ⟨[], rfl, List.nodup_nil, fun x hx => by cases hx⟩
  | @step n v h g' c ih =>
    obtain ⟨l, h1, h2, h3⟩ := ih (by omega)
    refine ⟨l ++ [v], by simp [h1], ?_, fun x hx => ?_⟩
    · rw [List.nodup_append]
      refine ⟨h2, by simp, fun a ha b hb e => ?_⟩
      rw [List.mem_singleton.mp hb] at e
      subst e
      obtain ⟨i, hi, hr⟩ := h3 a ha
      have := hr.add (rch_rest h hN (by omega))
      exact hf _ (by omega) this
    · rcases List.mem_append.mp hx with hx | hx
      · obtain ⟨i, hi, hr⟩ := h3 x hx
        exact ⟨i, by omega, hr⟩
      · rw [List.mem_singleton.mp hx]
        exact ⟨n, by omega, h⟩
theorem first_short {s : St} (hu : Up s) (hp : Sep s.ps) {m : Int} (hm : Sml m s) (h0 : 0 ≤ m) (hm2 : m ≤ 170) {w : Int} (h1 : -61 ≤ w) (h2 : w ≤ 61) {n : Nat} {g : Int} (hg : g ≤ 90) (h : Rch s w n g) (hf : ∀ k, k < n → ¬ Rch s w k g) : n ≤ 293 := by
  obtain ⟨l, e1, e2, e3⟩ := pts_first h hf h (Nat.le_refl _)
  rw [← e1]
  refine nodup_len _ (-61) l e2 fun x hx => ?_
  obtain ⟨i, hi, hr⟩ := e3 x hx
  have := low_b hu hm h1 hr
  have := high_first hu hp hm h2 h (by omega) hr
  push_cast
  omega
theorem path_bh {s : St} {w0 : Int} : ∀ (n N : Nat) (path : List Int) (w : Int), Rch s w0 N w → path.length = N → (∀ j v, (path ++ [w])[j]? = some v → Bh s w0 j v) → ∀ j v, (pathL s n (path ++ [w]) w)[j]? = some v → Bh s w0 j v
  | 0, N, path, w, hr, hN, hb => hb
  | n + 1, N, path, w, hr, hN, hb => by
    have nx : ∀ x, Bh s w0 (N + 1) x → ∀ j v, (path ++ [w] ++ [x])[j]? = some v → Bh s w0 j v := fun x hx j v hv => by
      rw [List.getElem?_append] at hv
      split at hv
      · exact hb j v hv
      · rename_i hj
        have : j = N + 1 := by
          have := (List.getElem?_eq_some_iff.mp hv).1
          simp [hN] at this hj ⊢
          omega
        subst this
        have hv : some x = some v := by simpa [hN] using hv
        cases hv
        exact hx
    rw [pathL]
    split
    · rename_i g
      split
      · rename_i c
        exact path_bh n (N + 1) (path ++ [w]) (nxt s w) (.step hr g c) (by simp [hN]) (nx _ (.inl (.step hr g c)))
      · exact nx _ (.inr ⟨N, w, rfl, hr, g, rfl⟩)
    · exact hb
theorem path_bh0 (s : St) (w : Int) : ∀ j v, (pathL s 299 [w] w)[j]? = some v → Bh s w j v :=
  path_bh 299 0 [] w .refl rfl fun j v hv => by
    have : j = 0 := by have := (List.getElem?_eq_some_iff.mp hv).1; simp at this; omega
    subst this
    have hv : some w = some v := hv
    cases hv
    exact .inl .refl
/-- what the law's path is -/
structure PathOk (s : St) (w : Int) (p : List Int) : Prop where
  len : p.length ≤ 300
  pos : 1 ≤ p.length
  bh : ∀ j v, p[j]? = some v → Bh s w j v
  ends : p.length < 300 → ∀ t x, p.length ≤ t → ¬ Bh s w t x
  term : ∀ T L, Ends s w T L → p.length = T + 1 ∧ T ≤ 298
  early : ∀ g, -90 ≤ g → g ≤ 90 → ∀ n, Bh s w n g → (∀ k, k < n → ¬ Bh s w k g) → n < p.length
theorem path_ok {s : St} (h : StOk s) {m : Int} (hm : Sml m (rise s)) (h0 : 0 ≤ m) (hm2 : m ≤ 160) {w : Int} (hw1 : -61 ≤ w) (hw2 : w ≤ 61) : PathOk s w (pathL s 299 [w] w) := by
  have hf : far = 10 ^ 30 := rfl
  have sp := sep_of h.ch
  have hs1 : signI s = 1 ∨ signI s = -1 := by unfold signI; split; exact .inr rfl; exact .inl rfl
  have hs2 : -61 ≤ signI s * w ∧ signI s * w ≤ 61 := by rcases hs1 with e | e <;> rw [e] <;> omega
  have bh := path_bh0 s w
  rcases fate_spec h (w := w) (by omega) (by omega) [] with ⟨T, L, he, _⟩ | ⟨he, _⟩
  · have back : Ends (rise s) (signI s * w) T (signI s * L) := by
      rcases he with ⟨r, g⟩ | ⟨n, v, rfl, r, g, c, rfl⟩
      · exact .inl ⟨rch_back sp r, by rw [go_turn sp, sign_sq]; exact g⟩
      · refine .inr ⟨n, signI s * v, rfl, rch_back sp r, by rw [go_turn sp, sign_sq]; exact g, ?_, ?_⟩
        · rw [cont_turn, nxt_turn sp, sign_sq, sign_sq]; exact c
        · rw [nxt_turn sp, sign_sq]
    have hT := ends_short (up_rise h) (sep_rise sp) hm h0 hs2.1 hs2.2 back
    have hT2 : T ≤ 298 := by omega
    obtain ⟨l, p1, p2, p3, _⟩ := path_ends (w0 := w) 299 0 [] w T L .refl rfl he (by omega) (fun j v hv => by
      have : j = 0 := by have := (List.getElem?_eq_some_iff.mp hv).1; simp at this; omega
      subst this
      have hv : some w = some v := hv
      cases hv
      exact .inl .refl)
    simp only [List.nil_append] at p1
    have len : (pathL s 299 [w] w).length = T + 1 := by rw [p1]; simp [p2]
    refine ⟨by omega, by omega, bh, fun _ t x ht => ends_no he (by omega), fun T' L' h' => by have := (ends_uniq he h').1; omega, fun g _ _ n hb _ => ?_⟩
    rw [len]
    by_cases hn : n < T + 1
    · exact hn
    · exact absurd hb (ends_no he (by omega))
  · have hl := path_endless 299 [w] w he
    have hl : (pathL s 299 [w] w).length = 300 := hl
    refine ⟨by omega, by omega, bh, fun hlt => by omega, fun T' L' h' => absurd he (fun z => h'.not_endless z), fun g g1 g2 n hb hfst => ?_⟩
    rw [hl]
    have hr := rch_back sp (endless_bh he hb)
    have := first_short (up_rise h) (sep_rise sp) hm h0 (by omega) hs2.1 hs2.2 (g := signI s * g) (by rcases hs1 with e | e <;> rw [e] <;> omega) hr (fun k hk hrk => hfst k hk (.inl (by
      have := rch_turn sp hrk
      rw [sign_sq, sign_sq] at this
      exact this)))
    omega
end Pure

set_option linter.all false
set_option Elab.async false
set_option maxRecDepth 100000
set_option maxHeartbeats 1000000
/-! The plain law of k05: a row far away does what the small one does. -/
namespace Pure
open PySem Mi Mir
theorem range_bnd {a b : Int} {d : D} (h : d ∈ rangeD a b) : ∃ j, d = .int j ∧ a ≤ j ∧ j < b := by
  obtain ⟨k, hk, rfl⟩ := List.mem_map.mp h
  have := List.mem_range.mp hk
  exact ⟨_, rfl, by omega, by omega⟩
def scbody : SF := (sSeq (sAsg 7 (eIf (eIsN (eVar 7)) eNon (eOp dAdd (eOp dMul (eVar 7) (eVar 1)) (eVar 2))))
    (sSeq (sAsg 8 (eIf (eIsN (eVar 8)) eNon (eOp dAdd (eOp dSub (eOp dAdd (eOp dMul (eVar 8) (eVar 1)) (eVar 1)) (eInt 1)) (eVar 2))))
    (sDrop (eApp (eVar 6) (eTup (aCons (eVar 7) (aCons (eVar 8) (aCons (eVar 9) (aCons (eIf (eOp dEq (eVar 9) (eStr "add")) (eOp dMul (eVar 10) (eVar 1)) (eOp dAdd (eOp dAdd (eOp dMul (eVar 10) (eVar 1)) (eVar 5)) (eVar 2))) aNil)))))))))
theorem mul_far {i c : Int} (h : -far ≤ i ∧ i ≤ far) (hc : 1 ≤ c) (hc2 : c ≤ 10 ^ 27 + 1) : dMul (.int i) (.int c) = some (.int (i * c)) := by
  have hf : far = 10 ^ 30 := rfl
  exact mul_mid (small_nat (by omega) (by omega)) (small_nat (by omega) (by omega))
theorem scbody_ok {c e r : Int} (hc : 1 ≤ c) (hc2 : c ≤ 10 ^ 27 + 1) {p : Pc} (h : PcOk p) {acc : List D} (ha : acc.length < 900) (x0 x3 x4 : Option W) (μ : Sto) : ∃ y7 y8 y9 y10,
    scbody [x0, some (.d (.int c)), some (.d (.int e)), x3, x4, some (.d (.int r)), some (.m μ.length), some (.d (oD p.lo)), some (.d (oD p.hi)), some (.d (.str (wd p.set))), some (.d (.int p.by_))] (μ ++ [some (.lst acc)]) =
    .nx [x0, some (.d (.int c)), some (.d (.int e)), x3, x4, some (.d (.int r)), some (.m μ.length), y7, y8, y9, y10] (μ ++ [some (.lst (acc ++ [(Pc.sc c e r p).d]))]) := by
  have ml := ml_last μ acc
  have sl := set_last μ (some (.lst acc)) (some (.lst (acc ++ [(Pc.sc c e r p).d])))
  have hl : acc.length < LIM := by unfold LIM; omega
  have mb := mul_far ⟨h.by1, h.by2⟩ hc hc2
  have q : dEq (.str (wd p.set)) (.str "add") = some (.bool (!p.set)) := by cases p.set <;> kernel_rfl
  have a7 : ∀ (ρ : Mi.Env) ν, ρ[7]? = some (some (.d (oD p.lo))) → ρ[1]? = some (some (.d (.int c))) → ρ[2]? = some (some (.d (.int e))) → eIf (eIsN (eVar 7)) eNon (eOp dAdd (eOp dMul (eVar 7) (eVar 1)) (eVar 2)) ρ ν = .ok (.d (oD (scLo c e p.lo))) ν := fun ρ ν h7 h1 h2 => by
    cases hlo : p.lo with
    | none => rw [hlo] at h7; simp [h7, scLo]
    | some i =>
      rw [hlo] at h7
      have m := mul_far (h.lo i hlo) hc hc2
      simp [h7, h1, h2, m, scLo]
  have a8 : ∀ (ρ : Mi.Env) ν, ρ[8]? = some (some (.d (oD p.hi))) → ρ[1]? = some (some (.d (.int c))) → ρ[2]? = some (some (.d (.int e))) → eIf (eIsN (eVar 8)) eNon (eOp dAdd (eOp dSub (eOp dAdd (eOp dMul (eVar 8) (eVar 1)) (eVar 1)) (eInt 1)) (eVar 2)) ρ ν = .ok (.d (oD (scHi c e p.hi))) ν := fun ρ ν h7 h1 h2 => by
    cases hlo : p.hi with
    | none => rw [hlo] at h7; simp [h7, scHi]
    | some i =>
      rw [hlo] at h7
      have m := mul_far (h.hi i hlo) hc hc2
      simp [h7, h1, h2, m, scHi]
  have a10 : ∀ (ρ : Mi.Env) ν, ρ[9]? = some (some (.d (.str (wd p.set)))) → ρ[10]? = some (some (.d (.int p.by_))) → ρ[1]? = some (some (.d (.int c))) → ρ[2]? = some (some (.d (.int e))) → ρ[5]? = some (some (.d (.int r))) →
      eIf (eOp dEq (eVar 9) (eStr "add")) (eOp dMul (eVar 10) (eVar 1)) (eOp dAdd (eOp dAdd (eOp dMul (eVar 10) (eVar 1)) (eVar 5)) (eVar 2)) ρ ν = .ok (.d (.int (if p.set = true then p.by_ * c + r + e else p.by_ * c))) ν := fun ρ ν h9 h10 h1 h2 h5 => by
    cases hs : p.set with
    | true => rw [hs] at q h9; simp [h9, h10, h1, h2, h5, q, mb]
    | false => rw [hs] at q h9; simp [h9, h10, h1, h2, h5, q, mb]
  refine ⟨some (.d (oD (scLo c e p.lo))), some (.d (oD (scHi c e p.hi))), some (.d (.str (wd p.set))), some (.d (.int p.by_)), ?_⟩
  unfold scbody
  rw [x_sSeq, x_sAsg, a7 _ _ rfl rfl rfl]
  simp only [R.bindS_ok, List.set_cons_succ, List.set_cons_zero]
  rw [x_sSeq, x_sAsg, a8 _ _ rfl rfl rfl]
  simp only [R.bindS_ok, List.set_cons_succ, List.set_cons_zero]
  rw [x_sDrop]
  simp only [x_eApp, x_eVar, List.getElem?_cons_zero, List.getElem?_cons_succ, R.bind_ok, ml, x_eTup, x_aCons, x_aNil]
  rw [a10 _ _ rfl rfl rfl rfl rfl]
  simp only [R.bind_ok, asDs_cons, asDs_nil, Option.map_some, ofO_some, ml]
  rw [if_pos hl]
  simp only [R.bindS_ok]
  have ed : PyData.tuple [oD (scLo c e p.lo), oD (scHi c e p.hi), .str (wd p.set), .int (if p.set = true then p.by_ * c + r + e else p.by_ * c)] = (Pc.sc c e r p).d := rfl
  rw [ed, sl]
theorem scloop {c e r : Int} (hc : 1 ≤ c) (hc2 : c ≤ 10 ^ 27 + 1) (x0 x3 x4 : Option W) (μ : Sto) : ∀ (ps : List Pc) (acc : List D) (x7 x8 x9 x10 : Option W), (∀ p ∈ ps, PcOk p) → acc.length + ps.length < 900 → ∃ y7 y8 y9 y10,
    forL (Mi.tTup [(tName 7), (tName 8), (tName 9), (tName 10)]) scbody (ps.map Pc.d) [x0, some (.d (.int c)), some (.d (.int e)), x3, x4, some (.d (.int r)), some (.m μ.length), x7, x8, x9, x10] (μ ++ [some (.lst acc)]) =
    .nx [x0, some (.d (.int c)), some (.d (.int e)), x3, x4, some (.d (.int r)), some (.m μ.length), y7, y8, y9, y10] (μ ++ [some (.lst (acc ++ (ps.map (Pc.sc c e r)).map Pc.d))])
  | [], acc, x7, x8, x9, x10, _, _ => ⟨x7, x8, x9, x10, by simp [forL]⟩
  | p :: ps, acc, x7, x8, x9, x10, hp, hl => by
    obtain ⟨y7, y8, y9, y10, e1⟩ := scbody_ok (e := e) (r := r) hc hc2 (hp p List.mem_cons_self) (acc := acc) (by simp at hl; omega) x0 x3 x4 μ
    obtain ⟨z7, z8, z9, z10, e2⟩ := scloop hc hc2 x0 x3 x4 μ ps (acc ++ [(Pc.sc c e r p).d]) y7 y8 y9 y10 (fun q hq => hp q (List.mem_cons_of_mem _ hq)) (by simp at hl ⊢; omega)
    refine ⟨z7, z8, z9, z10, ?_⟩
    have tg : Mi.tTup [(tName 7), (tName 8), (tName 9), (tName 10)] p.d [x0, some (.d (.int c)), some (.d (.int e)), x3, x4, some (.d (.int r)), some (.m μ.length), x7, x8, x9, x10] = some [x0, some (.d (.int c)), some (.d (.int e)), x3, x4, some (.d (.int r)), some (.m μ.length), some (.d (oD p.lo)), some (.d (oD p.hi)), some (.d (.str (wd p.set))), some (.d (.int p.by_))] := rfl
    rw [List.map_cons, forL]
    simp only [tg, e1]
    rw [e2]
    simp
theorem scaled_spec {s : St} (h : StOk s) {c e : Int} (hc : 1 ≤ c) (hc2 : c ≤ 10 ^ 27 + 1) (μ : Sto) : g__law_scaled [.d s.d, .d (.int c), .d (.int e)] μ = .ok (.d (s.sc c e).d) μ := by
  have hf : far = 10 ^ 30 := rfl
  have fi : ∀ (b : D) (x : Option Cell), fin μ.length (.rt (.d b) (μ ++ [x])) = .ok (.d b) μ := fun b x => by simp [fin]
  have tg : ∀ (x1 x2 x3 x4 x5 x6 x7 x8 x9 x10 : Option W), Mi.tTup [tName 3, tName 4] s.d [some (.d s.d), x1, x2, x3, x4, x5, x6, x7, x8, x9, x10] = some [some (.d s.d), x1, x2, some (.d (.tuple (s.ps.map Pc.d))), some (.d s.wk.d), x5, x6, x7, x8, x9, x10] := fun _ _ _ _ _ _ _ _ _ _ => rfl
  have a5 : ∀ (ρ : Mi.Env), ρ[4]? = some (some (.d s.wk.d)) → ρ[1]? = some (some (.d (.int c))) → eIf (eOp dEq (eOp dIx (eVar 4) (eInt 0)) (eStr "down")) (eOp dSub (eVar 1) (eInt 1)) (eInt 0) ρ μ = .ok (.d (.int (restOf c s.wk))) μ := fun ρ h4 h1 => by
    cases hk : s.wk with
    | first =>
      rw [hk] at h4
      have i0 : dIx (Wk.d .first) (.int 0) = some (.str "first") := rfl
      have q : dEq (.str "first") (.str "down") = some (.bool false) := by kernel_rfl
      simp [h4, h1, i0, q, restOf, isDown]
    | place =>
      rw [hk] at h4
      have i0 : dIx (Wk.d .place) (.int 0) = some (.str "place") := rfl
      have q : dEq (.str "place") (.str "down") = some (.bool false) := by kernel_rfl
      simp [h4, h1, i0, q, restOf, isDown]
    | way u lo hi =>
      rw [hk] at h4
      have i0 : dIx (Wk.d (.way u lo hi)) (.int 0) = some (.str (wayS u)) := rfl
      cases u with
      | true =>
        have q : dEq (.str (wayS true)) (.str "down") = some (.bool false) := by kernel_rfl
        simp [h4, h1, i0, q, restOf, isDown]
      | false =>
        have q : dEq (.str (wayS false)) (.str "down") = some (.bool true) := by kernel_rfl
        simp [h4, h1, i0, q, restOf, isDown]
  obtain ⟨y7, y8, y9, y10, el⟩ := scloop (e := e) (r := restOf c s.wk) hc hc2 (some (.d s.d)) (some (.d (.tuple (s.ps.map Pc.d)))) (some (.d s.wk.d)) μ s.ps [] none none none none (fun p hp => h.ch.all p hp) (by have := h.ch.four; simp; omega)
  rw [show g__law_scaled = fnOf 3 11 F__law_scaled from rfl, fnOf3]
  rw [show F__law_scaled = (sSeq (sTgt (Mi.tTup [(tName 3), (tName 4)]) (eVar 0))
    (sSeq (sAsg 5 (eIf (eOp dEq (eOp dIx (eVar 4) (eInt 0)) (eStr "down")) (eOp dSub (eVar 1) (eInt 1)) (eInt 0)))
    (sSeq (sAsg 6 (eLstM aNil))
    (sSeq (sFor (Mi.tTup [(tName 7), (tName 8), (tName 9), (tName 10)]) (iSeq (eVar 3)) scbody)
    (sSeq (sIf (eOp dEq (eBlt bLen (aCons (eVar 4) aNil)) (eInt 1)) (sRet (eTup (aCons (eBlt bTup (aCons (eVar 6) aNil)) (aCons (eVar 4) aNil)))) sNil)
    (sSeq (sAsg 7 (eIf (eIsN (eOp dIx (eVar 4) (eInt 1))) eNon (eOp dAdd (eOp dMul (eOp dIx (eVar 4) (eInt 1)) (eVar 1)) (eVar 2))))
    (sRet (eTup (aCons (eBlt bTup (aCons (eVar 6) aNil)) (aCons (eTup (aCons (eOp dIx (eVar 4) (eInt 0)) (aCons (eVar 7) (aCons (eIf (eIsN (eOp dIx (eVar 4) (eInt 2))) eNon (eOp dAdd (eOp dSub (eOp dAdd (eOp dMul (eOp dIx (eVar 4) (eInt 2)) (eVar 1)) (eVar 1)) (eInt 1)) (eVar 2))) aNil)))) aNil)))))))))) from rfl]
  rw [x_sSeq, x_sTgt]
  simp only [x_eVar, List.getElem?_cons_zero, R.bindS_ok, List.replicate, Nat.reduceSub, tg]
  rw [x_sSeq, x_sAsg, a5 _ rfl rfl]
  simp only [R.bindS_ok, List.set_cons_succ, List.set_cons_zero]
  rw [x_sSeq, x_sAsg]
  simp only [x_eLstM, x_aNil, R.bind_ok, asDs_nil, R.bindS_ok, List.set_cons_succ, List.set_cons_zero]
  rw [x_sSeq, x_sFor, x_iSeq]
  simp only [x_eVar, List.getElem?_cons_zero, List.getElem?_cons_succ, R.bind_ok, items, ofO_some, R.bindS_ok]
  rw [el]
  dsimp only
  rw [List.nil_append]
  have ml := ml_last μ ((s.ps.map (Pc.sc c e (restOf c s.wk))).map Pc.d)
  have bt : bTup [.list ((s.ps.map (Pc.sc c e (restOf c s.wk))).map Pc.d)] = some (.tuple ((s.ps.map (Pc.sc c e (restOf c s.wk))).map Pc.d)) := rfl
  generalize hL : (s.ps.map (Pc.sc c e (restOf c s.wk))).map Pc.d = L at ml bt
  have hd : (s.sc c e).d = .tuple [.tuple L, (s.wk.sc c e).d] := by rw [← hL]; rfl
  rw [hd]
  rw [x_sSeq, x_sIf]
  cases hk : s.wk with
  | first =>
    have l : bLen [Wk.d .first] = some (.int 1) := rfl
    simp only [x_eOp, x_eBlt, x_aCons, x_aNil, x_eVar, x_eInt, List.getElem?_cons_zero, List.getElem?_cons_succ, R.bind_ok, x_views0, x_views1, view_d, Option.map_some, Option.bind_some, l, ofO_some, dEqI, RS.test_ok, beq_self_eq_true, if_true, x_sRet, x_eTup, x_view_m, ml, bt, asDs_cons, asDs_nil, R.bindS_ok]
    exact fi _ _
  | place =>
    have l : bLen [Wk.d .place] = some (.int 1) := rfl
    simp only [x_eOp, x_eBlt, x_aCons, x_aNil, x_eVar, x_eInt, List.getElem?_cons_zero, List.getElem?_cons_succ, R.bind_ok, x_views0, x_views1, view_d, Option.map_some, Option.bind_some, l, ofO_some, dEqI, RS.test_ok, beq_self_eq_true, if_true, x_sRet, x_eTup, x_view_m, ml, bt, asDs_cons, asDs_nil, R.bindS_ok]
    exact fi _ _
  | way u lo hi =>
    have wok := h.wk
    rw [hk] at wok
    have l : bLen [Wk.d (.way u lo hi)] = some (.int 3) := rfl
    have i0 : dIx (Wk.d (.way u lo hi)) (.int 0) = some (.str (wayS u)) := rfl
    have i1 : dIx (Wk.d (.way u lo hi)) (.int 1) = some (oD lo) := rfl
    have i2 : dIx (Wk.d (.way u lo hi)) (.int 2) = some (oD hi) := rfl
    have q : ((3 : Int) == 1) = false := rfl
    have a7 : ∀ (ρ : Mi.Env) ν, ρ[4]? = some (some (.d (Wk.d (.way u lo hi)))) → ρ[1]? = some (some (.d (.int c))) → ρ[2]? = some (some (.d (.int e))) → eIf (eIsN (eOp dIx (eVar 4) (eInt 1))) eNon (eOp dAdd (eOp dMul (eOp dIx (eVar 4) (eInt 1)) (eVar 1)) (eVar 2)) ρ ν = .ok (.d (oD (scLo c e lo))) ν := fun ρ ν h4 h1 h2 => by
      cases hlo : lo with
      | none => rw [hlo] at h4 i1; simp [h4, i1, scLo]
      | some i =>
        have m := mul_far (wok.1 i hlo) hc hc2
        rw [hlo] at h4 i1
        simp [h4, i1, h1, h2, m, scLo]
    have a8 : ∀ (ρ : Mi.Env) ν, ρ[4]? = some (some (.d (Wk.d (.way u lo hi)))) → ρ[1]? = some (some (.d (.int c))) → ρ[2]? = some (some (.d (.int e))) → eIf (eIsN (eOp dIx (eVar 4) (eInt 2))) eNon (eOp dAdd (eOp dSub (eOp dAdd (eOp dMul (eOp dIx (eVar 4) (eInt 2)) (eVar 1)) (eVar 1)) (eInt 1)) (eVar 2)) ρ ν = .ok (.d (oD (scHi c e hi))) ν := fun ρ ν h4 h1 h2 => by
      cases hlo : hi with
      | none => rw [hlo] at h4 i2; simp [h4, i2, scHi]
      | some i =>
        have m := mul_far (wok.2.1 i hlo) hc hc2
        rw [hlo] at h4 i2
        simp [h4, i2, h1, h2, m, scHi]
    simp only [x_eOp, x_eBlt, x_aCons, x_aNil, x_eVar, x_eInt, List.getElem?_cons_zero, List.getElem?_cons_succ, R.bind_ok, x_views0, x_views1, view_d, Option.map_some, Option.bind_some, l, ofO_some, dEqI, q, RS.test_ok, Bool.false_eq_true, if_false, x_sNil]
    rw [x_sSeq, x_sAsg, a7 _ _ rfl rfl rfl]
    simp only [R.bindS_ok, List.set_cons_succ, List.set_cons_zero]
    have a8' := a8 [some (.d s.d), some (.d (.int c)), some (.d (.int e)), some (.d (.tuple (s.ps.map Pc.d))), some (.d (Wk.d (.way u lo hi))), some (.d (.int (restOf c (.way u lo hi)))), some (.m μ.length), some (.d (oD (scLo c e lo))), y8, y9, y10] (μ ++ [some (.lst L)]) rfl rfl rfl
    simp only [x_sRet, x_eTup, a8', x_eOp, x_eBlt, x_aCons, x_aNil, x_eVar, x_eInt, List.getElem?_cons_zero, List.getElem?_cons_succ, R.bind_ok, x_views0, x_views1, view_d, Option.map_some, Option.bind_some, ofO_some, x_view_m, ml, bt, i0, asDs_cons, asDs_nil, R.bindS_ok]
    exact fi _ _
end Pure

set_option linter.all false
set_option Elab.async false
set_option maxRecDepth 100000
set_option maxHeartbeats 1000000
/-! The plain law of k05: far rows, and single pieces. -/
namespace Pure
open PySem Mi Mir
theorem fnOf5 (n : Nat) (F : SF) (a b c d e : W) (μ : Sto) : fnOf 5 n F [a, b, c, d, e] μ = fin μ.length (F (some a :: some b :: some c :: some d :: some e :: List.replicate (n - 5) none) μ) := rfl
theorem fate_ends {s : St} (h : StOk s) {w : Int} (hw1 : -far ≤ w) (hw2 : w ≤ far) {T : Nat} {L : Int} (he : Ends s w T L) (μ : Sto) : g_fate [.d s.d, .d (.int w)] μ = .ok (.d (.tuple [.int (T : Nat), .int L])) μ := by
  rcases fate_spec h hw1 hw2 μ with ⟨T', L', he', e⟩ | ⟨he', e⟩
  · obtain ⟨rfl, rfl⟩ := ends_uniq he he'
    exact e
  · exact absurd he' (fun z => he.not_endless z)
theorem bh_calc {s : St} (h : StOk s) {w : Int} (hw1 : -far ≤ w) (hw2 : w ≤ far) {t : Nat} (ht : (t : Int) ≤ far) {x : Int} (b : Bh s w t x) (μ : Sto) : g_behind [.d s.d, .d (.int w), .d (.int (t : Int))] μ = .ok (.d (.int x)) μ := by
  obtain ⟨o, e, ho⟩ := behind_spec h hw1 hw2 ht μ
  rw [(ho x).mpr b] at e
  exact e
theorem nxt_bnd {s : St} (hs : StSm 7 s) (w : Int) : (-22 ≤ nxt s w ∧ nxt s w ≤ 41) ∨ (w - 7 ≤ nxt s w ∧ nxt s w ≤ w + 7) := by
  cases hp : pieceOf s.ps w with
  | none =>
    right
    have : nxt s w = w := by unfold nxt changedI; rw [hp]; rfl
    omega
  | some p =>
    have hm := hs.ps p (pieceOf_mem hp).1
    rw [nxt_add hp]
    cases hset : p.set with
    | true => left; rw [made_set hset]; exact hm.set hset
    | false =>
      right
      rw [made_add hset]
      have := hm.add hset
      omega
theorem bh_bnd {s : St} (hs : StSm 7 s) {w : Int} (h1 : -61 ≤ w) (h2 : w ≤ 61) {t : Nat} {v : Int} (h : Bh s w t v) : -61 - 7 * (t : Int) ≤ v ∧ v ≤ 61 + 7 * (t : Int) := by
  have key : ∀ {n : Nat} {u : Int}, Rch s w n u → -61 - 7 * (n : Int) ≤ u ∧ u ≤ 61 + 7 * (n : Int) := fun {n u} hr => by
    induction hr with
    | refl => omega
    | @step n u h g c ih =>
      have := nxt_bnd hs u
      push_cast
      omega
  rcases h with h | ⟨k, u, rfl, h, g, rfl⟩
  · exact key h
  · have := key h
    have := nxt_bnd hs u
    push_cast
    omega
def stepB : SF := (sSeq (sAsg 11 (eCall g_behind (aCons (eVar 5) (aCons (eVar 6) (aCons (eVar 10) aNil)))))
    (sIf (eOr (eIsN (eVar 11)) (eOr (eOp dNe (eOp dDiv (eOp dSub (eVar 11) (eVar 3)) (eVar 2)) (eOp dIx (eVar 7) (eVar 10))) (eAnd (eOp dGt (eVar 10) (eInt 0)) (eIsN (eCall g_when_at (aCons (eVar 5) (aCons (eVar 6) (aCons (eVar 11) aNil)))))))) (sRet (eBl false)) sNil))
theorem ix_int {p : List Int} {t : Nat} {v : Int} (h : p[t]? = some v) : dIx (.list (p.map .int)) (.int (t : Int)) = some (.int v) := by
  obtain ⟨ht, _⟩ := List.getElem?_eq_some_iff.mp h
  show (ixI (p.map PyData.int).length (t : Int)).bind (fun k => (p.map PyData.int)[k]?) = _
  rw [show ixI (p.map PyData.int).length (t : Int) = some t by
    unfold ixI
    rw [if_pos (by omega), if_pos (by rw [List.length_map]; omega)]
    simp]
  rw [Option.bind_some, List.getElem?_map, h]
  rfl
theorem ix_last {p : List Int} {l : Int} (h : p.getLast? = some l) : dIx (.list (p.map .int)) (.int (-1)) = some (.int l) := by
  rcases List.eq_nil_or_concat p with h0 | ⟨ini, d, h0⟩
  · rw [h0] at h; cases h
  · rw [List.concat_eq_append] at h0
    subst h0
    have : d = l := by simpa using h
    subst this
    rw [List.map_append]
    exact ixL _ _
theorem stepB_ok {s : St} (h : StOk s) (hs : StSm 7 s) {w c e V0 : Int} (h1 : -61 ≤ w) (h2 : w ≤ 61) (hc : 1 ≤ c) (hc2 : c ≤ 10 ^ 27 + 1) (he : -(10 ^ 29) ≤ e ∧ e ≤ 10 ^ 29) (hW : Blk c e w V0) {p : List Int} (hp : PathOk s w p) {t : Nat} (ht : t < p.length) (ht5 : t ≤ 5) (x0 x1 x4 x8 x9 x11 : Option W) (μ : Sto) : ∃ y11,
    stepB [x0, x1, some (.d (.int c)), some (.d (.int e)), x4, some (.d (s.sc c e).d), some (.d (.int V0)), some (.d (.list (p.map .int))), x8, x9, some (.d (.int (t : Int))), x11] μ =
    .nx [x0, x1, some (.d (.int c)), some (.d (.int e)), x4, some (.d (s.sc c e).d), some (.d (.int V0)), some (.d (.list (p.map .int))), x8, x9, some (.d (.int (t : Int))), y11] μ := by
  have hf : far = 10 ^ 30 := rfl
  have ok := sc_ok (by decide) hc hc2 he h hs
  have bW := sc_bnd hc hc2 he (i := w) (by omega)
  have hW2 := hW
  obtain ⟨w1, w2⟩ := hW2
  have hv := hp.bh t _ (List.getElem?_eq_getElem ht)
  have ix := ix_int (List.getElem?_eq_getElem ht)
  generalize p[t] = v at hv ix
  have bv := bh_bnd hs h1 h2 hv
  obtain ⟨V, hV, bV⟩ := sc_bh hc hW hv
  have e1 := bh_calc ok (w := V0) (by omega) (by omega) (t := t) (by omega) hV μ
  have bV2 := sc_bnd hc hc2 he (i := v) (by omega)
  obtain ⟨v1, v2⟩ := bV
  obtain ⟨o, e2, ho⟩ := when_spec ok (w := V0) (by omega) (by omega) (g := V) (by omega) (by omega) μ
  have dv := x_divI (a := V - e) (b := c) (by omega) (Int.lt_of_le_of_lt hc2 (by decide))
  rw [blk_div hc ⟨v1, v2⟩] at dv
  rcases ho with ⟨n, rfl, _, _⟩ | ⟨_, hn⟩
  · have e2 : g_when_at [.d (s.sc c e).d, .d (.int V0), .d (.int V)] μ = .ok (.d (.int (n : Int))) μ := e2
    refine ⟨some (.d (.int V)), ?_⟩
    unfold stepB
    by_cases h0 : 0 < t
    · simp [e1, dv, ix, dNeI, h0, e2]
    · simp [e1, dv, ix, dNeI, h0]
  · exact absurd hV (hn t)
theorem far_right_spec {s : St} (h : StOk s) (hs : StSm 7 s) {w c e r : Int} (h1 : -61 ≤ w) (h2 : w ≤ 61) (hc : 1 ≤ c) (hc2 : c ≤ 10 ^ 27 + 1) (he : -(10 ^ 29) ≤ e ∧ e ≤ 10 ^ 29) (hr0 : 0 ≤ r) (hr1 : r < c) (μ : Sto) :
    g__law_far_right [.d s.d, .d (.int w), .d (.int c), .d (.int e), .d (.int r)] μ = .ok (.d (.bool true)) μ := by
  have hf : far = 10 ^ 30 := rfl
  have ok := sc_ok (by decide) hc hc2 he h hs
  have bW := sc_bnd hc hc2 he (i := w) (by omega)
  have hp := path_ok h (sml_rise hs) (by decide) (by decide) h1 h2
  have lp := law_path_spec s w μ
  have sc := scaled_spec h hc hc2 (e := e) μ
  have hW : Blk c e w (w * c + r + e) := ⟨by omega, by omega⟩
  have mw := mul_far (i := w) (c := c) (by omega) hc hc2
  generalize pathL s 299 [w] w = p at hp lp
  have bl : bLen [.list (p.map PyData.int)] = some (.int (p.length : Int)) := by
    show some (PyData.int ((p.map PyData.int).length : Int)) = _
    rw [List.length_map]
  have tg : ∀ (y0 y1 y2 y3 y4 y5 y6 y7 y8 y9 y10 y11 : Option W) (a b : D), Mi.tTup [tName 8, tName 9] (.tuple [a, b]) [y0, y1, y2, y3, y4, y5, y6, y7, y8, y9, y10, y11] = some [y0, y1, y2, y3, y4, y5, y6, y7, some (.d a), some (.d b), y10, y11] := fun _ _ _ _ _ _ _ _ _ _ _ _ _ _ => rfl
  have mn : bMin2 [.int 6, .int (p.length : Int)] = some (.int (if (p.length : Int) < 6 then (p.length : Int) else 6)) := rfl
  have tail : ∀ x8 x9 : Option W, (sSeq (sFor (tName 10) (iRange1 (eBlt bMin2 (aCons (eInt 6) (aCons (eBlt bLen (aCons (eVar 7) aNil)) aNil)))) stepB) (sRet (eBl true))) [some (.d s.d), some (.d (.int w)), some (.d (.int c)), some (.d (.int e)), some (.d (.int r)), some (.d (s.sc c e).d), some (.d (.int (w * c + r + e))), some (.d (.list (p.map .int))), x8, x9, none, none] μ = .rt (.d (.bool true)) μ := fun x8 x9 => by
    rw [x_sSeq, x_sFor, x_iRange1]
    simp only [x_eBlt, x_aCons, x_aNil, x_eInt, x_eVar, List.getElem?_cons_zero, List.getElem?_cons_succ, R.bind_ok, x_views0, x_views1, view_d, Option.map_some, Option.bind_some, bl, mn, ofO_some]
    have hpl := hp.len
    rw [if_pos (by have : (LIM : Int) = 1000000 := rfl; split <;> omega), R.bindS_ok]
    obtain ⟨ρ2, μ2, e2, z10, z11, rfl, rfl⟩ := forL_keep (t := tName 10) (B := stepB)
      (fun ρ ν => ∃ z10 z11, ρ = [some (.d s.d), some (.d (.int w)), some (.d (.int c)), some (.d (.int e)), some (.d (.int r)), some (.d (s.sc c e).d), some (.d (.int (w * c + r + e))), some (.d (.list (p.map .int))), x8, x9, z10, z11] ∧ ν = μ) (rangeD 0 (if (p.length : Int) < 6 then (p.length : Int) else 6)) _ μ ⟨none, none, rfl, rfl⟩ (by
        rintro d hd ρ ν ⟨z10, z11, rfl, rfl⟩
        obtain ⟨j, rfl, j1, j2⟩ := range_bnd hd
        obtain ⟨t, rfl⟩ : ∃ t : Nat, j = t := ⟨j.toNat, by omega⟩
        have ht : t < p.length := by split at j2 <;> omega
        have ht5 : t ≤ 5 := by split at j2 <;> omega
        obtain ⟨y, ey⟩ := stepB_ok h hs h1 h2 hc hc2 he hW hp ht ht5 (some (.d s.d)) (some (.d (.int w))) (some (.d (.int r))) x8 x9 z11 ν
        exact ⟨_, rfl, _, ν, ey, some (.d (.int (t : Int))), y, rfl, rfl⟩)
    rw [e2]
    simp
  rw [show g__law_far_right = fnOf 5 12 F__law_far_right from rfl, fnOf5]
  rw [show F__law_far_right = (sSeq (sAsg 5 (eCall g__law_scaled (aCons (eVar 0) (aCons (eVar 2) (aCons (eVar 3) aNil)))))
    (sSeq (sPar 6 7 (eOp dAdd (eOp dAdd (eOp dMul (eVar 1) (eVar 2)) (eVar 4)) (eVar 3)) (eCall g__law_path (aCons (eVar 0) (aCons (eVar 1) aNil))))
    (sSeq (sTgt (Mi.tTup [(tName 8), (tName 9)]) (eCall g_fate (aCons (eVar 5) (aCons (eVar 6) aNil))))
    (sSeq (sIf (eOp dNe (eVar 8) (eOp dIx (eCall g__law_fate (aCons (eVar 0) (aCons (eVar 1) aNil))) (eInt 0))) (sRet (eBl false)) sNil)
    (sSeq (sIf (eAnd (eNotN (eVar 8)) (eOp dNe (eOp dDiv (eOp dSub (eVar 9) (eVar 3)) (eVar 2)) (eOp dIx (eVar 7) (eUn dNeg (eInt 1))))) (sRet (eBl false)) sNil)
    (sSeq (sFor (tName 10) (iRange1 (eBlt bMin2 (aCons (eInt 6) (aCons (eBlt bLen (aCons (eVar 7) aNil)) aNil)))) stepB)
    (sRet (eBl true)))))))) from rfl]
  rw [x_sSeq, x_sAsg]
  simp only [List.replicate, Nat.reduceSub, x_eCall, x_aCons, x_aNil, x_eVar, List.getElem?_cons_zero, List.getElem?_cons_succ, R.bind_ok, sc, R.bindS_ok, List.set_cons_succ, List.set_cons_zero]
  rw [x_sSeq, x_sPar]
  simp only [x_eCall, x_eOp, x_aCons, x_aNil, x_eVar, List.getElem?_cons_zero, List.getElem?_cons_succ, R.bind_ok, view_d, Option.bind_some, mw, Option.map_some, ofO_some, x_addI, lp, R.bindS_ok, List.set_cons_succ, List.set_cons_zero]
  rcases fate_spec ok (w := w * c + r + e) (by omega) (by omega) μ with ⟨T, L, hE, eF⟩ | ⟨hE, eF⟩
  · obtain ⟨l, hl, bL⟩ := sc_ends hc hW hE
    obtain ⟨len, hT⟩ := hp.term T l hl
    have lf := law_fate_ends hl hT μ
    have last : p.getLast? = some l := by
      have ht : T < p.length := by omega
      have := hp.bh T _ (List.getElem?_eq_getElem ht)
      rw [List.getLast?_eq_getElem?, len, Nat.add_sub_cancel, List.getElem?_eq_getElem ht, this.det (ends_bh hl)]
    have il := ix_last last
    have i0 : dIx (.tuple [.int (T : Int), .int l]) (.int 0) = some (.int (T : Int)) := rfl
    have dv := x_divI (a := L - e) (b := c) (by omega) (Int.lt_of_le_of_lt hc2 (by decide))
    rw [blk_div hc bL] at dv
    rw [x_sSeq, x_sTgt]
    simp only [x_eCall, x_aCons, x_aNil, x_eVar, List.getElem?_cons_zero, List.getElem?_cons_succ, R.bind_ok, eF, R.bindS_ok, tg]
    rw [x_sSeq, x_sIf]
    simp only [x_eCall, x_eOp, x_aCons, x_aNil, x_eVar, x_eInt, List.getElem?_cons_zero, List.getElem?_cons_succ, R.bind_ok, lf, view_d, Option.bind_some, i0, Option.map_some, ofO_some, dNeI, beq_self_eq_true, Bool.not_true, RS.test_ok, Bool.false_eq_true, if_false, x_sNil]
    rw [x_sSeq, x_sIf]
    simp only [x_eAnd, x_eNotN, x_eOp, x_eUn, x_eVar, x_eInt, List.getElem?_cons_zero, List.getElem?_cons_succ, R.bind_ok, x_isN2, Bool.not_false, R.test_ok, if_true, view_d, Option.bind_some, x_subI, dv, x_negI, il, Option.map_some, ofO_some, dNeI, beq_self_eq_true, Bool.not_true, RS.test_ok, Bool.false_eq_true, if_false, x_sNil]
    rw [tail]
    simp [fin]
  · have lf := law_fate_endless (sc_endless hc hW hE) μ
    have i0 : dIx (.tuple [.none, .none]) (.int 0) = some .none := rfl
    have nn : dNe .none .none = some (.bool false) := rfl
    rw [x_sSeq, x_sTgt]
    simp only [x_eCall, x_aCons, x_aNil, x_eVar, List.getElem?_cons_zero, List.getElem?_cons_succ, R.bind_ok, eF, R.bindS_ok, tg]
    rw [x_sSeq, x_sIf]
    simp only [x_eCall, x_eOp, x_aCons, x_aNil, x_eVar, x_eInt, List.getElem?_cons_zero, List.getElem?_cons_succ, R.bind_ok, lf, view_d, Option.bind_some, i0, Option.map_some, ofO_some, nn, RS.test_ok, Bool.false_eq_true, if_false, x_sNil]
    rw [x_sSeq, x_sIf]
    simp only [x_eAnd, x_eNotN, x_eVar, List.getElem?_cons_zero, List.getElem?_cons_succ, R.bind_ok, x_isN1, Bool.not_true, R.test_ok, Bool.false_eq_true, if_false, RS.test_ok, x_sNil]
    rw [tail]
    simp [fin]
/-! ### single pieces -/
def oneP (lo : Option Int) (hi st : Int) : Pc := ⟨lo, some hi, false, st⟩
theorem one_ch {lo : Option Int} {hi st : Int} (h1 : EndOk lo) (h2 : -far ≤ hi ∧ hi ≤ far) (h3 : ∀ i, lo = some i → i ≤ hi) (h4 : 0 < st ∧ st ≤ far) : ChOk [oneP lo hi st] := by
  have hf : far = 10 ^ 30 := rfl
  refine ⟨by simp, by simp, fun p hp => ?_, trivial⟩
  rw [List.mem_singleton.mp hp]
  exact ⟨h1, fun i e => by cases e; exact h2, fun i j e1 e2 => by cases e2; exact h3 i e1, by show -far ≤ st; omega, by show st ≤ far; omega, fun _ => by show st ≠ 0; omega⟩
theorem one_st {lo : Option Int} {hi st : Int} (h : ChOk [oneP lo hi st]) (hst : 0 < st) {k : Wk} (hk : k = .first ∨ k = .place ∨ k = .way true none none) : StOk ⟨[oneP lo hi st], k⟩ := by
  refine ⟨h, ?_⟩
  rcases hk with rfl | rfl | rfl
  · exact True.intro
  · exact .inl fun p hp _ => by rw [List.mem_singleton.mp hp]; exact hst
  · exact ⟨fun i e => (by cases e), fun i e => (by cases e), fun i j e => (by cases e)⟩
theorem one_piece (lo : Option Int) (hi st : Int) (k : Wk) (V : Int) : pieceOf (St.mk [oneP lo hi st] k).ps V = if hasB lo (some hi) V = true then some (oneP lo hi st) else none := by
  show List.find? _ [oneP lo hi st] = _
  rw [List.find?_cons]
  have e : hasB (oneP lo hi st).lo (oneP lo hi st).hi V = hasB lo (some hi) V := rfl
  cases hh : hasB lo (some hi) V with
  | true => simp [e, hh]
  | false => simp [e, hh]
theorem one_out {lo : Option Int} {hi st : Int} {k : Wk} {V : Int} (h : hasB lo (some hi) V = false) : goB ⟨[oneP lo hi st], k⟩ V = false := by
  unfold goB
  rw [one_piece, h]
  simp
theorem one_met {ps : List Pc} {k : Wk} (hk : k = .first ∨ k = .place ∨ k = .way true none none) (V : Int) : metI ⟨ps, k⟩ V = true := by
  rcases hk with rfl | rfl | rfl <;> rfl
theorem one_run {lo : Option Int} {hi st : Int} (h : ChOk [oneP lo hi st]) (hst : 0 < st) {k : Wk} (hk : k = .place ∨ k = .way true none none) {w : Int} (h1 : leO lo w = true) (h2 : w ≤ hi) :
    ∃ m : Nat, (hi - w) / st + 1 = (m : Int) ∧ 1 ≤ m ∧ (∀ j : Nat, j ≤ m → Rch ⟨[oneP lo hi st], k⟩ w j (w + j * st)) ∧ Ends ⟨[oneP lo hi st], k⟩ w m (w + m * st) := by
  obtain ⟨m, em, m1, mj, mr⟩ := many_pos h2 hst
  have hu : Up ⟨[oneP lo hi st], k⟩ := ⟨fun a b e => (by rcases hk with rfl | rfl <;> cases e), fun _ p hp _ => (by rw [List.mem_singleton.mp hp]; exact hst), by simp⟩
  have hsep : Sep [oneP lo hi st] := sep_of h
  have hh : hasB lo (some hi) w = true := by unfold hasB; rw [h1]; exact decide_eq_true h2
  have pw : pieceOf (St.mk [oneP lo hi st] k).ps w = some (oneP lo hi st) := by rw [one_piece, if_pos hh]
  have met : ∀ V, metI ⟨[oneP lo hi st], k⟩ V = true := fun V => one_met (.inr hk) V
  have nf : notFirst k = true := by rcases hk with rfl | rfl <;> rfl
  have all : ∀ j : Nat, j ≤ m → Rch ⟨[oneP lo hi st], k⟩ w j (w + j * st) := fun j hj => rise_run hu hsep (met w) pw rfl hst nf j fun i hi' => ⟨decide_eq_true (mj i (by omega)), met _⟩
  refine ⟨m, em, m1, all, .inl ⟨all m (Nat.le_refl _), one_out ?_⟩⟩
  unfold hasB
  rw [show geO (some hi) (w + m * st) = false from decide_eq_false (by omega), Bool.and_false]
theorem one_first {lo : Option Int} {hi st : Int} {w : Int} (h1 : leO lo w = true) (h2 : w ≤ hi) : Ends ⟨[oneP lo hi st], .first⟩ w 1 (w + st) := by
  have hh : hasB lo (some hi) w = true := by unfold hasB; rw [h1]; exact decide_eq_true h2
  have pw : pieceOf (St.mk [oneP lo hi st] .first).ps w = some (oneP lo hi st) := by rw [one_piece, if_pos hh]
  refine .inr ⟨0, w, rfl, .refl, go_of rfl pw, rfl, ?_⟩
  rw [nxt_add pw, made_add rfl]
  rfl
theorem one_ends0 {lo : Option Int} {hi st : Int} {k : Wk} {w : Int} (h : hasB lo (some hi) w = false) : Ends ⟨[oneP lo hi st], k⟩ w 0 w := .inl ⟨.refl, one_out h⟩
end Pure

set_option linter.all false
set_option Elab.async false
set_option maxRecDepth 100000
set_option maxHeartbeats 1000000
/-! The law of k05. -/
namespace Pure
open PySem Mi Mir
theorem fnOf4' (n : Nat) (F : SF) (a b c d : W) (μ : Sto) : fnOf 4 n F [a, b, c, d] μ = fin μ.length (F (some a :: some b :: some c :: some d :: List.replicate (n - 4) none) μ) := rfl
theorem sh_pair (a b : Int) : SeqAt.shaped (.tuple [.int a, .int b]) = true := (Sh.tup (n := 0) (mem2' (sh_int _) (sh_int _))).shaped (by decide)
theorem pair_ne (a b : Int) : dNe (.tuple [.int a, .int b]) (.tuple [.int a, .int b]) = some (.bool false) := ne_self (sh_pair a b)
theorem pair_eq (a b : Int) : dEq (.tuple [.int a, .int b]) (.tuple [.int a, .int b]) = some (.bool true) := eq_self (sh_pair a b)
theorem single_out {low high st w : Int} (h : w < low ∨ high < w) (μ : Sto) : g__law_single [.d (.int low), .d (.int high), .d (.int st), .d (.int w)] μ = .ok (.d (.tuple [.int 0, .int w])) μ := by
  have f : ∀ b : D, fin μ.length (.rt (.d b) μ) = .ok (.d b) μ := fun b => x_fin _ _ _ rfl
  rw [show g__law_single = fnOf 4 5 F__law_single from rfl, fnOf4']
  unfold F__law_single
  by_cases h1 : w < low
  · simp [h1, f]
  · have h2 : high < w := by omega
    simp [h1, h2, f]
theorem single_in {low high st w : Int} (h1 : low ≤ w) (h2 : w ≤ high) (hst : 0 < st) (hst2 : st ≤ 10 ^ 22) (hb : high - w ≤ 10 ^ 31) {m : Nat} (em : (high - w) / st + 1 = (m : Int)) (μ : Sto) : g__law_single [.d (.int low), .d (.int high), .d (.int st), .d (.int w)] μ = .ok (.d (.tuple [.int (m : Int), .int (w + m * st)])) μ := by
  have f : ∀ b : D, fin μ.length (.rt (.d b) μ) = .ok (.d b) μ := fun b => x_fin _ _ _ rfl
  have n1 : ¬ w < low := by omega
  have n2 : ¬ high < w := by omega
  have dv := x_divI (a := high - w) (b := st) hst (Int.lt_of_le_of_lt hst2 (by decide))
  have mle : (m : Int) ≤ 10 ^ 31 + 1 := by
    rw [← em]
    have : (high - w) / st ≤ high - w := Int.ediv_le_self _ (by omega)
    omega
  have mul : dMul (.int (m : Int)) (.int st) = some (.int (m * st)) := mul_mid (small_nat (by omega) (by omega)) (small_nat (by omega) (by omega))
  rw [show g__law_single = fnOf 4 5 F__law_single from rfl, fnOf4']
  unfold F__law_single
  simp [n1, n2, dv, em, mul, f]
def wB : SF := (sSeq (sAsg 12 (eTup (aCons (eTup (aCons (eVar 9) (aCons (eOp dAdd (eVar 9) (eVar 10)) (aCons (eStr "add") (aCons (eVar 11) aNil))))) aNil)))
    (sSeq (sAsg 13 (eCall g__law_single (aCons (eVar 9) (aCons (eOp dAdd (eVar 9) (eVar 10)) (aCons (eVar 11) (aCons (eVar 8) aNil))))))
    (sSeq (sIf (eOr (eOp dNe (eCall g_fate (aCons (eTup (aCons (eVar 12) (aCons (eTup (aCons (eStr "up") (aCons eNon (aCons eNon aNil)))) aNil))) (aCons (eVar 8) aNil))) (eVar 13)) (eOp dNe (eCall g_fate (aCons (eTup (aCons (eVar 12) (aCons (eTup (aCons (eStr "place") aNil)) aNil))) (aCons (eVar 8) aNil))) (eVar 13))) (sRet (eBl false)) sNil)
    (sSeq (sIf (eOp dNe (eCall g_fate (aCons (eTup (aCons (eVar 12) (aCons (eTup (aCons (eStr "first") aNil)) aNil))) (aCons (eVar 8) aNil))) (eTup (aCons (eBlt bMin2 (aCons (eInt 1) (aCons (eOp dIx (eVar 13) (eInt 0)) aNil))) (aCons (eOp dAdd (eVar 8) (eOp dMul (eBlt bMin2 (aCons (eInt 1) (aCons (eOp dIx (eVar 13) (eInt 0)) aNil))) (eVar 11))) aNil)))) (sRet (eBl false)) sNil)
    (sIf (eAnd (eOp dGt (eOp dIx (eVar 13) (eInt 0)) (eInt 2)) (eOp dNe (eCall g_behind (aCons (eTup (aCons (eVar 12) (aCons (eTup (aCons (eStr "place") aNil)) aNil))) (aCons (eVar 8) (aCons (eOp dDiv (eOp dIx (eVar 13) (eInt 0)) (eInt 2)) aNil)))) (eOp dAdd (eVar 8) (eOp dMul (eOp dDiv (eOp dIx (eVar 13) (eInt 0)) (eInt 2)) (eVar 11))))) (sRet (eBl false)) sNil)))))
theorem wB_gen {low width st w : Int} {T T1 : Nat} {L : Int} (hT1 : (T1 : Int) = if (T : Int) < 1 then (T : Int) else 1)
    (mul1 : dMul (.int (T1 : Int)) (.int st) = some (.int (T1 * st))) (mul2 : dMul (.int ((T : Int) / 2)) (.int st) = some (.int ((T : Int) / 2 * st))) (μ : Sto)
    (es : g__law_single [.d (.int low), .d (.int (low + width)), .d (.int st), .d (.int w)] μ = .ok (.d (.tuple [.int (T : Int), .int L])) μ)
    (eu : g_fate [.d (St.mk [oneP (some low) (low + width) st] (.way true none none)).d, .d (.int w)] μ = .ok (.d (.tuple [.int (T : Int), .int L])) μ)
    (ep : g_fate [.d (St.mk [oneP (some low) (low + width) st] .place).d, .d (.int w)] μ = .ok (.d (.tuple [.int (T : Int), .int L])) μ)
    (ef : g_fate [.d (St.mk [oneP (some low) (low + width) st] .first).d, .d (.int w)] μ = .ok (.d (.tuple [.int (T1 : Int), .int (w + T1 * st)])) μ)
    (eb : 2 < (T : Int) → g_behind [.d (St.mk [oneP (some low) (low + width) st] .place).d, .d (.int w), .d (.int ((T : Int) / 2))] μ = .ok (.d (.int (w + (T : Int) / 2 * st))) μ)
    (x0 x1 x2 x3 x4 x5 x6 x7 x12 x13 : Option W) : ∃ y12 y13,
    wB [x0, x1, x2, x3, x4, x5, x6, x7, some (.d (.int w)), some (.d (.int low)), some (.d (.int width)), some (.d (.int st)), x12, x13] μ =
    .nx [x0, x1, x2, x3, x4, x5, x6, x7, some (.d (.int w)), some (.d (.int low)), some (.d (.int width)), some (.d (.int st)), y12, y13] μ := by
  have i0 : dIx (.tuple [.int (T : Int), .int L]) (.int 0) = some (.int (T : Int)) := rfl
  have mn : bMin2 [.int 1, .int (T : Int)] = some (.int (T1 : Int)) := by rw [hT1]; rfl
  have d2 := x_divI (a := (T : Int)) (b := 2) (by decide) (by decide)
  have hu : PyData.tuple [.tuple [.tuple [.int low, .int (low + width), .str "add", .int st]], .tuple [.str "up", .none, .none]] = (St.mk [oneP (some low) (low + width) st] (.way true none none)).d := rfl
  have hp : PyData.tuple [.tuple [.tuple [.int low, .int (low + width), .str "add", .int st]], .tuple [.str "place"]] = (St.mk [oneP (some low) (low + width) st] .place).d := rfl
  have hf : PyData.tuple [.tuple [.tuple [.int low, .int (low + width), .str "add", .int st]], .tuple [.str "first"]] = (St.mk [oneP (some low) (low + width) st] .first).d := rfl
  have n1 := pair_ne (T : Int) L
  have n2 := pair_ne (T1 : Int) (w + T1 * st)
  refine ⟨some (.d (.tuple [.tuple [.int low, .int (low + width), .str "add", .int st]])), some (.d (.tuple [.int (T : Int), .int L])), ?_⟩
  unfold wB
  rw [x_sSeq, x_sAsg]
  simp only [x_eTup, x_eOp, x_eStr, x_aCons, x_aNil, x_eVar, List.getElem?_cons_zero, List.getElem?_cons_succ, R.bind_ok, view_d, Option.bind_some, x_addI, Option.map_some, ofO_some, asDs_cons, asDs_nil, R.bindS_ok, List.set_cons_succ, List.set_cons_zero]
  rw [x_sSeq, x_sAsg]
  simp only [x_eCall, x_eOp, x_aCons, x_aNil, x_eVar, List.getElem?_cons_zero, List.getElem?_cons_succ, R.bind_ok, view_d, Option.bind_some, x_addI, Option.map_some, ofO_some, es, R.bindS_ok, List.set_cons_succ, List.set_cons_zero]
  rw [x_sSeq, x_sIf]
  simp only [x_eOr, x_eOp, x_eCall, x_eTup, x_eStr, x_eNon, x_aCons, x_aNil, x_eVar, List.getElem?_cons_zero, List.getElem?_cons_succ, R.bind_ok, asDs_cons, asDs_nil, view_d, Option.bind_some, Option.map_some, ofO_some, hu, hp, eu, ep, n1, R.test_ok, Bool.false_eq_true, if_false, RS.test_ok, x_sNil]
  rw [x_sSeq, x_sIf]
  simp only [x_eOp, x_eCall, x_eTup, x_eStr, x_eNon, x_eInt, x_eBlt, x_aCons, x_aNil, x_eVar, List.getElem?_cons_zero, List.getElem?_cons_succ, R.bind_ok, asDs_cons, asDs_nil, x_views0, x_views1, view_d, Option.bind_some, Option.map_some, ofO_some, hf, ef, i0, mn, mul1, x_addI, n2, R.test_ok, Bool.false_eq_true, if_false, RS.test_ok, x_sNil]
  rw [x_sIf]
  by_cases h2 : 2 < (T : Int)
  · have eb := eb h2
    simp only [x_eAnd, x_eOp, x_eCall, x_eTup, x_eStr, x_eNon, x_eInt, x_aCons, x_aNil, x_eVar, List.getElem?_cons_zero, List.getElem?_cons_succ, R.bind_ok, asDs_cons, asDs_nil, view_d, Option.bind_some, Option.map_some, ofO_some, i0, x_gtI, decide_eq_true h2, R.test_ok, if_true, hp, d2, eb, mul2, x_addI, dNeI, beq_self_eq_true, Bool.not_true, RS.test_ok, Bool.false_eq_true, if_false, x_sNil]
  · simp only [x_eAnd, x_eOp, x_eInt, x_eVar, List.getElem?_cons_zero, List.getElem?_cons_succ, R.bind_ok, view_d, Option.bind_some, Option.map_some, ofO_some, i0, x_gtI, decide_eq_false h2, R.test_ok, Bool.false_eq_true, if_false, RS.test_ok, x_sNil]
theorem wB_ok {low width st w : Int} (hl0 : 0 ≤ low) (hl1 : low ≤ 10 ^ 25) (hw0 : 0 ≤ width) (hw1 : width ≤ 10 ^ 29) (hs0 : 0 < st) (hs1 : st ≤ 10 ^ 22) (h1 : low - 1 ≤ w) (h2 : w ≤ low + width + 1) (x0 x1 x2 x3 x4 x5 x6 x7 x12 x13 : Option W) (μ : Sto) : ∃ y12 y13,
    wB [x0, x1, x2, x3, x4, x5, x6, x7, some (.d (.int w)), some (.d (.int low)), some (.d (.int width)), some (.d (.int st)), x12, x13] μ =
    .nx [x0, x1, x2, x3, x4, x5, x6, x7, some (.d (.int w)), some (.d (.int low)), some (.d (.int width)), some (.d (.int st)), y12, y13] μ := by
  have hf : far = 10 ^ 30 := rfl
  have ch : ChOk [oneP (some low) (low + width) st] := one_ch (fun i e => by cases e; omega) (by omega) (fun i e => by cases e; omega) (by omega)
  have so := fun k hk => one_st ch hs0 (k := k) hk
  by_cases hin : low ≤ w ∧ w ≤ low + width
  · have le : leO (some low) w = true := decide_eq_true hin.1
    obtain ⟨m, em, m1, all, en⟩ := one_run ch hs0 (k := .place) (.inl rfl) le hin.2
    obtain ⟨m', em', _, _, en'⟩ := one_run ch hs0 (k := .way true none none) (.inr rfl) le hin.2
    have : m' = m := by omega
    subst this
    have mle : (m' : Int) ≤ 10 ^ 29 + 1 := by
      rw [← em]
      have : (low + width - w) / st ≤ low + width - w := Int.ediv_le_self _ (by omega)
      omega
    refine wB_gen (T := m') (T1 := 1) (L := w + m' * st) (by rw [if_neg (by omega)]; rfl) (mul_mid (by decide) (small_nat (by omega) (by omega))) (mul_mid (small_nat (by omega) (by omega)) (small_nat (by omega) (by omega))) μ (single_in hin.1 hin.2 hs0 hs1 (by omega) em μ) (fate_ends (so _ (.inr (.inr rfl))) (by omega) (by omega) en' μ) (fate_ends (so _ (.inr (.inl rfl))) (by omega) (by omega) en μ) ?_ (fun _ => ?_) x0 x1 x2 x3 x4 x5 x6 x7 x12 x13
    · have := fate_ends (so _ (.inl rfl)) (by omega) (by omega) (one_first (st := st) le hin.2) μ
      rw [show w + ((1 : Nat) : Int) * st = w + st by simp]
      exact this
    · have e2 : ((m' / 2 : Nat) : Int) = (m' : Int) / 2 := by omega
      have := bh_calc (so _ (.inr (.inl rfl))) (w := w) (by omega) (by omega) (t := m' / 2) (by omega) (.inl (all (m' / 2) (by omega))) μ
      rw [e2] at this
      exact this
  · have hh : hasB (some low) (some (low + width)) w = false := by
      show (decide (low ≤ w) && decide (w ≤ low + width)) = false
      by_cases h : low ≤ w
      · rw [decide_eq_false (show ¬ w ≤ low + width by omega), Bool.and_false]
      · rw [decide_eq_false h, Bool.false_and]
    refine wB_gen (T := 0) (T1 := 0) (L := w) rfl (mul_mid (by decide) (small_nat (by omega) (by omega))) (mul_mid (by decide) (small_nat (by omega) (by omega))) μ (single_out (by omega) μ) (fate_ends (so _ (.inr (.inr rfl))) (by omega) (by omega) (one_ends0 hh) μ) (fate_ends (so _ (.inr (.inl rfl))) (by omega) (by omega) (one_ends0 hh) μ) ?_ (fun h => by omega) x0 x1 x2 x3 x4 x5 x6 x7 x12 x13
    have := fate_ends (so _ (.inl rfl)) (by omega) (by omega) (one_ends0 hh) μ
    rw [show w + ((0 : Nat) : Int) * st = w by simp]
    exact this
def partB : SF := (sSeq (sAsg 8 (eOp dSub (eCall g__law_roll (aCons (eVar 2) (aCons (eInt 66) aNil))) (eInt 22)))
    (sIf (eNot (eCall g__law_far_right (aCons (eVar 4) (aCons (eVar 8) (aCons (eVar 5) (aCons (eVar 6) (aCons (eCall g__law_roll (aCons (eVar 2) (aCons (eVar 5) aNil))) aNil))))))) (sRet (eBl false)) sNil))
theorem part_ok {s : St} (h : StOk s) (hs : StSm 7 s) {c e : Int} (hc : 1 ≤ c) (hc2 : c ≤ 10 ^ 27 + 1) (he : -(10 ^ 29) ≤ e ∧ e ≤ 10 ^ 29) {k : Nat} {μ : Sto} (hd : DrumAt μ k) (x0 x1 x3 x7 x8 x9 x10 x11 x12 x13 : Option W) : ∃ y8 μ', DrumAt μ' k ∧
    partB [x0, x1, some (.m k), x3, some (.d s.d), some (.d (.int c)), some (.d (.int e)), x7, x8, x9, x10, x11, x12, x13] μ = .nx [x0, x1, some (.m k), x3, some (.d s.d), some (.d (.int c)), some (.d (.int e)), x7, y8, x9, x10, x11, x12, x13] μ' := by
  obtain ⟨r1, μ1, a1, b1, ro1, e1⟩ := roll_spec (many := 66) hd (by decide) (by decide)
  have d1 := ro1.at_ hd.lt
  obtain ⟨r2, μ2, a2, b2, ro2, e2⟩ := roll_spec (many := c) d1 (by omega) (Int.lt_of_le_of_lt hc2 (by decide))
  have fr := far_right_spec h hs (w := r1 - 22) (by omega) (by omega) hc hc2 he a2 b2 μ2
  refine ⟨some (.d (.int (r1 - 22))), μ2, ro2.at_ d1.lt, ?_⟩
  unfold partB
  rw [x_sSeq, x_sAsg]
  simp only [x_eOp, x_eCall, x_aCons, x_aNil, x_eVar, x_eInt, List.getElem?_cons_zero, List.getElem?_cons_succ, R.bind_ok, e1, view_d, Option.bind_some, x_subI, Option.map_some, ofO_some, R.bindS_ok, List.set_cons_succ, List.set_cons_zero]
  rw [x_sIf]
  simp only [x_eNot, x_eCall, x_aCons, x_aNil, x_eVar, List.getElem?_cons_zero, List.getElem?_cons_succ, R.bind_ok, e2, fr, R.test_ok, RS.test_ok, Bool.not_true, Bool.false_eq_true, if_false, x_sNil]
def turnB : SF := (sSeq (sAsg 4 (eCall g__law_statement (aCons (eVar 2) (aCons (eInt 7) aNil))))
    (sSeq (sAsg 5 (eOp dAdd (eInt 1) (eOp dMul (eCall g__law_roll (aCons (eVar 2) (aCons (eOp dPow (eInt 10) (eInt 9)) aNil))) (eCall g__law_some (aCons (eVar 2) (aCons (eLst (aCons (eInt 1) (aCons (eOp dPow (eInt 10) (eInt 8)) (aCons (eOp dPow (eInt 10) (eInt 18)) aNil)))) aNil))))))
    (sSeq (sAsg 6 (eOp dMul (eOp dSub (eCall g__law_roll (aCons (eVar 2) (aCons (eOp dPow (eInt 10) (eInt 9)) aNil))) (eOp dMul (eInt 5) (eOp dPow (eInt 10) (eInt 8)))) (eCall g__law_some (aCons (eVar 2) (aCons (eLst (aCons (eInt 1) (aCons (eOp dPow (eInt 10) (eInt 10)) (aCons (eOp dPow (eInt 10) (eInt 20)) aNil)))) aNil)))))
    (sFor (tName 7) (iRange1 (eInt 6)) partB))))
theorem p9 : dPow (.int 10) (.int 9) = some (.int (10 ^ 9)) := rfl
theorem p8 : dPow (.int 10) (.int 8) = some (.int (10 ^ 8)) := rfl
theorem p18 : dPow (.int 10) (.int 18) = some (.int (10 ^ 18)) := rfl
theorem p10 : dPow (.int 10) (.int 10) = some (.int (10 ^ 10)) := rfl
theorem p20 : dPow (.int 10) (.int 20) = some (.int (10 ^ 20)) := rfl
theorem p15 : dPow (.int 10) (.int 15) = some (.int (10 ^ 15)) := rfl
theorem p19 : dPow (.int 10) (.int 19) = some (.int (10 ^ 19)) := rfl
theorem p5 : dPow (.int 10) (.int 5) = some (.int (10 ^ 5)) := rfl
theorem p12 : dPow (.int 10) (.int 12) = some (.int (10 ^ 12)) := rfl
theorem p30 : dPow (.int 10) (.int 30) = some (.int (10 ^ 30)) := rfl
theorem m58 : dMul (.int 5) (.int (10 ^ 8)) = some (.int (5 * 10 ^ 8)) := rfl
theorem some3 {μ : Sto} {k : Nat} (h : DrumAt μ k) (a b c : Int) : ∃ v μ', (v = a ∨ v = b ∨ v = c) ∧ Rolled k μ μ' ∧ g__law_some [.m k, .d (.list [.int a, .int b, .int c])] μ = .ok (.d (.int v)) μ' := by
  obtain ⟨d, μ', hd, r, e⟩ := some_spec (l := [.int a, .int b, .int c]) h (by simp) (by simp)
  simp only [List.mem_cons, List.not_mem_nil, or_false] at hd
  rcases hd with rfl | rfl | rfl
  · exact ⟨a, μ', .inl rfl, r, e⟩
  · exact ⟨b, μ', .inr (.inl rfl), r, e⟩
  · exact ⟨c, μ', .inr (.inr rfl), r, e⟩
theorem turn_ok {k : Nat} {μ : Sto} (h : DrumAt μ k) (x0 x1 x3 x4 x5 x6 x7 x8 x9 x10 x11 x12 x13 : Option W) : ∃ y4 y5 y6 y7 y8 μ', DrumAt μ' k ∧
    turnB [x0, x1, some (.m k), x3, x4, x5, x6, x7, x8, x9, x10, x11, x12, x13] μ = .nx [x0, x1, some (.m k), x3, y4, y5, y6, y7, y8, x9, x10, x11, x12, x13] μ' := by
  obtain ⟨s, μ1, hs, hm, r1, e1⟩ := statement_sm (most := 7) h (by decide) (by decide)
  have h1 := r1.at_ h.lt
  obtain ⟨a, μ2, a0, a1, r2, e2⟩ := roll_spec (many := 10 ^ 9) h1 (by decide) (by decide)
  have h2 := r2.at_ h1.lt
  obtain ⟨b, μ3, hb, r3, e3⟩ := some3 h2 1 (10 ^ 8) (10 ^ 18)
  have h3 := r3.at_ h2.lt
  obtain ⟨c, μ4, c0, c1, r4, e4⟩ := roll_spec (many := 10 ^ 9) h3 (by decide) (by decide)
  have h4 := r4.at_ h3.lt
  obtain ⟨d, μ5, hd, r5, e5⟩ := some3 h4 1 (10 ^ 10) (10 ^ 20)
  have h5 := r5.at_ h4.lt
  have mab : dMul (.int a) (.int b) = some (.int (a * b)) := x_mulI (mulOk_l (by omega))
  have mcd : dMul (.int (c - 5 * 10 ^ 8)) (.int d) = some (.int ((c - 5 * 10 ^ 8) * d)) := x_mulI (mulOk_l (by omega))
  have bs : 1 ≤ 1 + a * b ∧ 1 + a * b ≤ 10 ^ 27 + 1 := by rcases hb with rfl | rfl | rfl <;> omega
  have bm : -(10 ^ 29) ≤ (c - 5 * 10 ^ 8) * d ∧ (c - 5 * 10 ^ 8) * d ≤ 10 ^ 29 := by rcases hd with rfl | rfl | rfl <;> omega
  generalize a * b = ab at mab bs
  generalize (c - 5 * 10 ^ 8) * d = cd at mcd bm
  unfold turnB
  rw [x_sSeq, x_sAsg]
  simp only [x_eCall, x_aCons, x_aNil, x_eVar, x_eInt, List.getElem?_cons_zero, List.getElem?_cons_succ, R.bind_ok, e1, R.bindS_ok, List.set_cons_succ, List.set_cons_zero]
  rw [x_sSeq, x_sAsg]
  simp only [x_eCall, x_eOp, x_eLst, x_aCons, x_aNil, x_eVar, x_eInt, List.getElem?_cons_zero, List.getElem?_cons_succ, R.bind_ok, view_d, Option.bind_some, p9, p8, p18, Option.map_some, ofO_some, e2, asDs_cons, asDs_nil, e3, mab, x_addI, R.bindS_ok, List.set_cons_succ, List.set_cons_zero]
  rw [x_sSeq, x_sAsg]
  simp only [x_eCall, x_eOp, x_eLst, x_aCons, x_aNil, x_eVar, x_eInt, List.getElem?_cons_zero, List.getElem?_cons_succ, R.bind_ok, view_d, Option.bind_some, p9, p8, p10, p20, m58, Option.map_some, ofO_some, e4, x_subI, asDs_cons, asDs_nil, e5, mcd, R.bindS_ok, List.set_cons_succ, List.set_cons_zero]
  rw [x_sFor, x_iRange1]
  simp only [x_eInt, R.bind_ok]
  rw [if_pos (by decide), R.bindS_ok]
  obtain ⟨ρ2, μ', e, z7, z8, rfl, h'⟩ := forL_keep (t := tName 7) (B := partB)
    (fun ρ ν => ∃ z7 z8, ρ = [x0, x1, some (.m k), x3, some (.d s.d), some (.d (.int (1 + ab))), some (.d (.int cd)), z7, z8, x9, x10, x11, x12, x13] ∧ DrumAt ν k) (rangeD 0 6) _ μ5 ⟨x7, x8, rfl, h5⟩ (by
      rintro d - ρ ν ⟨z7, z8, rfl, hν⟩
      obtain ⟨y8, ν', hν', ey⟩ := part_ok hs hm bs.1 bs.2 bm hν x0 x1 x3 (some (.d d)) z8 x9 x10 x11 x12 x13
      exact ⟨_, rfl, _, ν', ey, some (.d d), y8, rfl, hν'⟩)
  exact ⟨_, _, _, z7, z8, μ', h', e⟩
def endB : SF := (sSeq (sPar 9 10 (eOp dMul (eCall g__law_roll (aCons (eVar 2) (aCons (eOp dPow (eInt 10) (eInt 9)) aNil))) (eOp dPow (eInt 10) (eInt 15))) (eOp dAdd (eOp dMul (eCall g__law_roll (aCons (eVar 2) (aCons (eOp dPow (eInt 10) (eInt 9)) aNil))) (eOp dPow (eInt 10) (eInt 19))) (eCall g__law_roll (aCons (eVar 2) (aCons (eOp dPow (eInt 10) (eInt 9)) aNil)))))
    (sSeq (sAsg 11 (eOp dAdd (eInt 1) (eOp dMul (eCall g__law_roll (aCons (eVar 2) (aCons (eOp dPow (eInt 10) (eInt 9)) aNil))) (eCall g__law_some (aCons (eVar 2) (aCons (eLst (aCons (eInt 1) (aCons (eOp dPow (eInt 10) (eInt 5)) (aCons (eOp dPow (eInt 10) (eInt 12)) aNil)))) aNil))))))
    (sFor (tName 8) (iSeq (eTup (aCons (eOp dSub (eVar 9) (eInt 1)) (aCons (eVar 9) (aCons (eOp dAdd (eVar 9) (eOp dDiv (eVar 10) (eInt 3))) (aCons (eOp dAdd (eVar 9) (eVar 10)) (aCons (eOp dAdd (eOp dAdd (eVar 9) (eVar 10)) (eInt 1)) aNil))))))) wB)))
theorem end_ok {k : Nat} {μ : Sto} (h : DrumAt μ k) (x0 x1 x3 x4 x5 x6 x7 x8 x9 x10 x11 x12 x13 : Option W) : ∃ y8 y9 y10 y11 y12 y13 μ',
    endB [x0, x1, some (.m k), x3, x4, x5, x6, x7, x8, x9, x10, x11, x12, x13] μ = .nx [x0, x1, some (.m k), x3, x4, x5, x6, x7, y8, y9, y10, y11, y12, y13] μ' := by
  obtain ⟨a, μ1, a0, a1, r1, e1⟩ := roll_spec (many := 10 ^ 9) h (by decide) (by decide)
  have h1 := r1.at_ h.lt
  obtain ⟨b, μ2, b0, b1, r2, e2⟩ := roll_spec (many := 10 ^ 9) h1 (by decide) (by decide)
  have h2 := r2.at_ h1.lt
  obtain ⟨c, μ3, c0, c1, r3, e3⟩ := roll_spec (many := 10 ^ 9) h2 (by decide) (by decide)
  have h3 := r3.at_ h2.lt
  obtain ⟨d, μ4, d0, d1, r4, e4⟩ := roll_spec (many := 10 ^ 9) h3 (by decide) (by decide)
  have h4 := r4.at_ h3.lt
  obtain ⟨v, μ5, hv, r5, e5⟩ := some3 h4 1 (10 ^ 5) (10 ^ 12)
  have ma : dMul (.int a) (.int (10 ^ 15)) = some (.int (a * 10 ^ 15)) := x_mulI (mulOk_l (by omega))
  have mb : dMul (.int b) (.int (10 ^ 19)) = some (.int (b * 10 ^ 19)) := x_mulI (mulOk_l (by omega))
  have md : dMul (.int d) (.int v) = some (.int (d * v)) := x_mulI (mulOk_l (by omega))
  have bl : 0 ≤ a * 10 ^ 15 ∧ a * 10 ^ 15 ≤ 10 ^ 25 := by omega
  have bw : 0 ≤ b * 10 ^ 19 + c ∧ b * 10 ^ 19 + c ≤ 10 ^ 29 := by omega
  have bs : 0 < 1 + d * v ∧ 1 + d * v ≤ 10 ^ 22 := by rcases hv with rfl | rfl | rfl <;> omega
  have d3 := fun x : Int => x_divI (a := x) (b := 3) (by decide) (by decide)
  unfold endB
  rw [x_sSeq, x_sPar]
  simp only [x_eCall, x_eOp, x_aCons, x_aNil, x_eVar, x_eInt, List.getElem?_cons_zero, List.getElem?_cons_succ, R.bind_ok, view_d, Option.bind_some, p9, p15, p19, Option.map_some, ofO_some, e1, ma, e2, mb, e3, x_addI, R.bindS_ok, List.set_cons_succ, List.set_cons_zero]
  rw [x_sSeq, x_sAsg]
  simp only [x_eCall, x_eOp, x_eLst, x_aCons, x_aNil, x_eVar, x_eInt, List.getElem?_cons_zero, List.getElem?_cons_succ, R.bind_ok, view_d, Option.bind_some, p9, p5, p12, Option.map_some, ofO_some, e4, asDs_cons, asDs_nil, e5, md, x_addI, R.bindS_ok, List.set_cons_succ, List.set_cons_zero]
  generalize a * 10 ^ 15 = low at bl
  generalize b * 10 ^ 19 + c = width at bw
  generalize 1 + d * v = st at bs
  have q3 : 0 ≤ width / 3 ∧ width / 3 ≤ width := by omega
  rw [x_sFor, x_iSeq]
  simp only [x_eTup, x_eOp, x_aCons, x_aNil, x_eVar, x_eInt, List.getElem?_cons_zero, List.getElem?_cons_succ, R.bind_ok, view_d, Option.bind_some, x_subI, x_addI, d3, Option.map_some, ofO_some, asDs_cons, asDs_nil, items, R.bindS_ok]
  obtain ⟨ρ2, μ', e, z8, z12, z13, rfl, rfl⟩ := forL_keep (t := tName 8) (B := wB)
    (fun ρ ν => ∃ z8 z12 z13, ρ = [x0, x1, some (.m k), x3, x4, x5, x6, x7, z8, some (.d (.int low)), some (.d (.int width)), some (.d (.int st)), z12, z13] ∧ ν = μ5) [.int (low - 1), .int low, .int (low + width / 3), .int (low + width), .int (low + width + 1)] _ μ5 ⟨x8, x12, x13, rfl, rfl⟩ (by
      rintro d hd ρ ν ⟨z8, z12, z13, rfl, rfl⟩
      obtain ⟨w, rfl, w1, w2⟩ : ∃ w, d = .int w ∧ low - 1 ≤ w ∧ w ≤ low + width + 1 := by
        simp only [List.mem_cons, List.not_mem_nil, or_false] at hd
        rcases hd with rfl | rfl | rfl | rfl | rfl <;> exact ⟨_, rfl, by omega, by omega⟩
      obtain ⟨y12, y13, ey⟩ := wB_ok bl.1 bl.2 bw.1 bw.2 bs.1 bs.2 w1 w2 x0 x1 (some (.m k)) x3 x4 x5 x6 x7 z12 z13 ν
      exact ⟨_, rfl, _, ν, ey, some (.d (.int w)), y12, y13, rfl, rfl⟩)
  exact ⟨z8, _, _, _, z12, z13, μ', e⟩
def cellB : SF := (sSeq (sAsg 2 (eCall g__law_drum (aCons (eVar 1) (aCons (eInt 17) aNil))))
    (sSeq (sFor (tName 3) (iRange1 (eInt 3)) turnB) endB))
theorem cell_ok (c : Int) (x0 x2 x3 x4 x5 x6 x7 x8 x9 x10 x11 x12 x13 : Option W) (μ : Sto) : ∃ y2 y3 y4 y5 y6 y7 y8 y9 y10 y11 y12 y13 μ',
    cellB [x0, some (.d (.int c)), x2, x3, x4, x5, x6, x7, x8, x9, x10, x11, x12, x13] μ = .nx [x0, some (.d (.int c)), y2, y3, y4, y5, y6, y7, y8, y9, y10, y11, y12, y13] μ' := by
  obtain ⟨a, b, ha, hb, hb2, e1⟩ := drum_spec (cell := c) (turn := 17) (μ := μ) (by decide) (by decide)
  have h1 : DrumAt (μ ++ [drum a b]) μ.length := ⟨a, b, by simp, ha, hb, hb2⟩
  unfold cellB
  rw [x_sSeq, x_sAsg]
  simp only [x_eCall, x_aCons, x_aNil, x_eVar, x_eInt, List.getElem?_cons_zero, List.getElem?_cons_succ, R.bind_ok, e1, R.bindS_ok, List.set_cons_succ, List.set_cons_zero]
  rw [x_sSeq, x_sFor, x_iRange1]
  simp only [x_eInt, R.bind_ok]
  rw [if_pos (by decide), R.bindS_ok]
  obtain ⟨ρ', ν', e2, z3, z4, z5, z6, z7, z8, rfl, h2⟩ := forL_keep (t := tName 3) (B := turnB)
    (fun ρ κ => ∃ z3 z4 z5 z6 z7 z8, ρ = [x0, some (.d (.int c)), some (.m μ.length), z3, z4, z5, z6, z7, z8, x9, x10, x11, x12, x13] ∧ DrumAt κ μ.length) (rangeD 0 3) _ _ ⟨x3, x4, x5, x6, x7, x8, rfl, h1⟩ (by
      rintro d - ρ κ ⟨z3, z4, z5, z6, z7, z8, rfl, hκ⟩
      obtain ⟨w4, w5, w6, w7, w8, κ', hκ', e⟩ := turn_ok hκ x0 (some (.d (.int c))) (some (.d d)) z4 z5 z6 z7 z8 x9 x10 x11 x12 x13
      exact ⟨_, rfl, _, κ', e, some (.d d), w4, w5, w6, w7, w8, rfl, hκ'⟩)
  obtain ⟨y8, y9, y10, y11, y12, y13, μ', e3⟩ := end_ok h2 x0 (some (.d (.int c))) z3 z4 z5 z6 z7 z8 x9 x10 x11 x12 x13
  rw [e2]
  exact ⟨_, z3, z4, z5, z6, z7, y8, y9, y10, y11, y12, y13, μ', e3⟩
theorem last_fate (μ : Sto) : g_fate [.d (.tuple [.tuple [.tuple [.none, .int (10 ^ 30), .str "add", .int 7]], .tuple [.str "up", .none, .none]]), .d (.int 0)] μ = .ok (.d (.tuple [.int 142857142857142857142857142858, .int (10 ^ 30 + 6)])) μ := by
  have hf : far = 10 ^ 30 := rfl
  have ch : ChOk [oneP none (10 ^ 30) 7] := one_ch (fun i e => by cases e) (by omega) (fun i e => by cases e) (by omega)
  obtain ⟨m, em, _, _, en⟩ := one_run ch (by decide) (k := .way true none none) (.inr rfl) (w := 0) rfl (by decide)
  have hm : m = 142857142857142857142857142858 := by
    have : ((10 ^ 30 - 0 : Int) / 7 + 1) = 142857142857142857142857142858 := by decide
    omega
  have := fate_ends (one_st ch (by decide) (.inr (.inr rfl))) (w := 0) (by decide) (by decide) en μ
  rw [hm] at this
  exact this
theorem cut_mem {l : List D} {lo hi : Option Int} {x : D} (h : x ∈ cutL l lo hi) : x ∈ l := List.mem_of_mem_drop (List.mem_of_mem_take h)
theorem law_true : ∀ ns : List Int, ns.length ≤ 63 → (∀ z ∈ ns, Builtin.Int.intBits z ≤ 1048576) → g_law [.d (.list (ns.map .int))] [] = .ok (.d (.bool true)) [] := by
  intro ns hn _
  have ad : dAdd (.list [.int 0]) (.list (ns.map .int)) = some (.list (.int 0 :: ns.map .int)) := by
    rw [dAdd_short _ _ (by simp; unfold LIM; omega)]
    rfl
  have cu : dCut (.list (.int 0 :: ns.map .int)) none (some 8) = some (.list (cutL (.int 0 :: ns.map .int) none (some 8))) := rfl
  have allI : ∀ d ∈ cutL (.int 0 :: ns.map PyData.int) none (some 8), ∃ c, d = .int c := fun d hd => by
    rcases List.mem_cons.mp (cut_mem hd) with rfl | h
    · exact ⟨0, rfl⟩
    · obtain ⟨c, _, rfl⟩ := List.mem_map.mp h
      exact ⟨c, rfl⟩
  rw [show g_law = fnOf 1 14 F_law from rfl, fnOf1]
  unfold F_law
  rw [x_sSeq, x_sFor, x_iSeq, x_eSl]
  simp only [x_eOp, x_eLst, x_aCons, x_aNil, x_eInt, x_eVar, List.getElem?_cons_zero, R.bind_ok, asDs_cons, asDs_nil, view_d, Option.bind_some, ad, Option.map_some, ofO_some, x_part0, x_part1, cu, items, R.bindS_ok, List.replicate, Nat.reduceSub]
  obtain ⟨ρ2, μ2, e2, y1, y2, y3, y4, y5, y6, y7, y8, y9, y10, y11, y12, y13, rfl⟩ := forL_keep (t := tName 1) (B := cellB) (fun ρ _ => ∃ y1 y2 y3 y4 y5 y6 y7 y8 y9 y10 y11 y12 y13, ρ = [some (.d (.list (ns.map .int))), y1, y2, y3, y4, y5, y6, y7, y8, y9, y10, y11, y12, y13]) (cutL (.int 0 :: ns.map .int) none (some 8)) [some (.d (.list (ns.map .int))), none, none, none, none, none, none, none, none, none, none, none, none, none] [] ⟨_, _, _, _, _, _, _, _, _, _, _, _, _, rfl⟩ (by
    rintro d hd ρ ν ⟨y1, y2, y3, y4, y5, y6, y7, y8, y9, y10, y11, y12, y13, rfl⟩
    obtain ⟨c, rfl⟩ := allI d hd
    obtain ⟨z2, z3, z4, z5, z6, z7, z8, z9, z10, z11, z12, z13, ν', e⟩ := cell_ok c (some (.d (.list (ns.map .int)))) y2 y3 y4 y5 y6 y7 y8 y9 y10 y11 y12 y13 ν
    exact ⟨_, rfl, _, ν', e, _, _, _, _, _, _, _, _, _, _, _, _, _, rfl⟩)
  unfold cellB turnB partB endB wB at e2
  rw [e2]
  dsimp only
  have lf := last_fate μ2
  have q := pair_eq 142857142857142857142857142858 (10 ^ 30 + 6)
  simp only [x_sSeq, x_sAsg, x_eTup, x_eOp, x_aCons, x_aNil, x_eInt, x_eStr, x_eNon, R.bind_ok, view_d, Option.bind_some, p30, x_addI, Option.map_some, ofO_some, asDs_cons, asDs_nil, R.bindS_ok, List.set_cons_succ, List.set_cons_zero, x_sRet, x_eCall, x_eVar, List.getElem?_cons_zero, List.getElem?_cons_succ, lf, q]
  simp [fin]
end Pure

set_option linter.all false
set_option Elab.async false
set_option maxRecDepth 100000
set_option maxHeartbeats 0
open PySem PySem.W PySem.Calls PyProof.Rows
theorem PySem.Challenge.cw_metagain_k05_whole_fates_of_thirty_figur_holds : PySem.Challenge.rw_metagain_k05_whole_fates_of_thirty_figur.Holds := by
  w_on; o_law
  refine HandSHeadRun.head_any (r := OpenLaw.row PySem.Challenge.rw_metagain_k05_whole_fates_of_thirty_figur) (q := view (OpenLaw.row PySem.Challenge.rw_metagain_k05_whole_fates_of_thirty_figur).prog [56]) (H := Hd.hk) (ob := Hd.ob) (M := 9000) (loose := Hd.loose) (d := HandSHeadRun.topDef (OpenLaw.row PySem.Challenge.rw_metagain_k05_whole_fates_of_thirty_figur).prog 56) (kwd := []) Hd.ob_eq
    (by kernel_rfl) (fun s => by kernel_rfl) Hd.run (by kernel_rfl) (by kernel_rfl) (by kernel_rfl) (by rfl) (by first | assumption | decide +kernel) (by decide +kernel) ⟨rfl, rfl, rfl, rfl, rfl, by decide +kernel⟩ ?hw ?hc
  case hw => w_witness2
  case hc =>
    refine LamX.walk_ofTsE (l := PySem.Challenge.rw_metagain_k05_whole_fates_of_thirty_figur) (n := 63) (k := 10) (x := "script") (CX := fun w => L2N.CX PySem.Challenge.rw_metagain_k05_whole_fates_of_thirty_figur.prog w) rfl (by decide) (by kernel_rfl) ⟨rfl, by decide, by decide⟩ ?F (fun w H s e s' z => by
      obtain ⟨_, _, _, _, _, _, _, _, _, _, _, _, z⟩ := z
      exact z)
    intro w mg fa h Y G hmg0
    obtain ⟨K, KX, c⟩ := Y
    have hmg : mg ("law" : PySem.Str) = some (.ref fa) := by
      have e : (HandSHeadRun.topDef (OpenLaw.row PySem.Challenge.rw_metagain_k05_whole_fates_of_thirty_figur).prog 56).name = ("law" : PySem.Str) := by kernel_rfl
      rw [← e]
      exact hmg0
    exact ⟨K, KX, Hd.at_law KX G c hmg Pure.law_true⟩
