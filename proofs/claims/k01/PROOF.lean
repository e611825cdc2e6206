import PyProof.Rows.All
import PyProof.EqLayable
import PyProof.StrBlockL
import KE.IntText
import HandS.ForMost
import HandS.ForExc
import HandS.Lambda
import HandS.Wide
import HandS.IsInst
import HandS.TupAny
import HandS.TupMul
import HandS.Rev
import HandS.Conv
import HandS.Deep
import HandS.ExcCtx
import HandS.Defaults
import PyProof.StrOps2
import PyProof.FitsStr
import PyProof.Rows.IntBool
import PyProof.CallStr
import HandS.Flow
import HandS.SortInts
import HandS.RaiseMore
import HandS.Style
import HandS.NoneIn
import HandS.Zip
import HandS.HotCalls
import HandS.ExcIs
import KE.GoesEnum
import HandS.SetBool
import PyProof.Rows.SetFrom
import PyProof.SetRoads
import HandS.CallLocal
import KE.KRevSl
import HandS.HeadHook4
import HandS.HeadWalk
import HandS.HeadEnd
import PySem.Challenge.RW_metagain_k01_changes_known
import HandS.Head0
import HandS.Head1
import HandS.Head2
import HandS.Text
set_option Elab.async false
set_option linter.all false
/-! The mirror's language: what the pieces of a def do to plain data; no machine here. -/
namespace Mi
open PySem
abbrev D := PyData
/-- what a name holds: plain data; a list (or an object) of one's own that may change; a def or a class of the text; an error that was caught, at that address -/
inductive W where
  | d (d : D) | m (k : Nat) | f (x : Str) | x (a : Nat)
inductive Cell where
  | lst (l : List D) | ins (c : Str) (fs : List (Str × D))
abbrev Sto := List (Option Cell)
structure Exn where
  cls : Str
  arg : Option D := none
inductive R (α : Type) where
  | ok (a : α) (μ : Sto) | er (x : Exn) (μ : Sto) | no
def R.bind {α β : Type} (r : R α) (f : α → Sto → R β) : R β := match r with
  | .ok a μ => f a μ
  | .er x μ => .er x μ
  | .no => .no
@[simp] theorem R.bind_ok {α β : Type} (a : α) (μ : Sto) (f : α → Sto → R β) : (R.ok a μ).bind f = f a μ := rfl
@[simp] theorem R.bind_er {α β : Type} (x : Exn) (μ : Sto) (f : α → Sto → R β) : (R.er x μ : R α).bind f = .er x μ := rfl
@[simp] theorem R.bind_no {α β : Type} (f : α → Sto → R β) : (R.no : R α).bind f = .no := rfl
/-- an option as a result -/
def ofO {α : Type} (o : Option α) (μ : Sto) : R α := match o with
  | some a => .ok a μ
  | none => .no
@[simp] theorem ofO_some {α : Type} (a : α) (μ : Sto) : ofO (some a) μ = .ok a μ := rfl
@[simp] theorem ofO_none {α : Type} (μ : Sto) : ofO (none : Option α) μ = .no := rfl
abbrev Env := List (Option W)
abbrev EF := Env → Sto → R W
abbrev AF := Env → Sto → R (List W)
abbrev GF := List W → Sto → R W
inductive RS where
  | nx (ρ : Env) (μ : Sto) | rt (w : W) (μ : Sto) | bk (ρ : Env) (μ : Sto) | ct (ρ : Env) (μ : Sto) | er (x : Exn) (μ : Sto) | no
abbrev SF := Env → Sto → RS
def R.bindS {α : Type} (r : R α) (f : α → Sto → RS) : RS := match r with
  | .ok a μ => f a μ
  | .er x μ => .er x μ
  | .no => .no
@[simp] theorem R.bindS_ok {α : Type} (a : α) (μ : Sto) (f : α → Sto → RS) : (R.ok a μ).bindS f = f a μ := rfl
@[simp] theorem R.bindS_er {α : Type} (x : Exn) (μ : Sto) (f : α → Sto → RS) : (R.er x μ : R α).bindS f = .er x μ := rfl
@[simp] theorem R.bindS_no {α : Type} (f : α → Sto → RS) : (R.no : R α).bindS f = .no := rfl

/-- one's own list of that number -/
def mlist (μ : Sto) (k : Nat) : Option (List D) := match μ[k]? with
  | some (some (.lst l)) => some l
  | _ => none
/-- the data that a value shows now -/
def view (μ : Sto) : W → Option D
  | .d d => some d
  | .m k => (mlist μ k).map .list
  | .f _ => none
  | .x _ => none
@[simp] theorem view_d (μ : Sto) (d : D) : view μ (.d d) = some d := rfl
def asDs : List W → Option (List D)
  | [] => some []
  | .d d :: r => (asDs r).map (d :: ·)
  | _ :: _ => none
def views (μ : Sto) : List W → Option (List D)
  | [] => some []
  | w :: r => (view μ w).bind fun d => (views μ r).map (d :: ·)
@[simp] theorem asDs_nil : asDs [] = some [] := rfl
@[simp] theorem asDs_cons (d : D) (r : List W) : asDs (.d d :: r) = (asDs r).map (d :: ·) := rfl

/-! ### expressions -/
def eVar (i : Nat) : EF := fun ρ μ => match ρ[i]? with
  | some (some w) => .ok w μ
  | _ => .no
def eC (d : D) : EF := fun _ μ => .ok (.d d) μ
def eInt (i : Int) : EF := eC (.int i)
def eStr (x : Str) : EF := eC (.str x)
def eBl (b : Bool) : EF := eC (.bool b)
def eNon : EF := eC .none
def eFn (x : Str) : EF := fun _ μ => .ok (.f x) μ
/-- an operator on two values -/
def eOp (op : D → D → Option D) (f g : EF) : EF := fun ρ μ => (f ρ μ).bind fun a μ1 => (g ρ μ1).bind fun b μ2 =>
  ofO ((view μ2 a).bind fun x => (view μ2 b).bind fun y => (op x y).map W.d) μ2
def eUn (op : D → Option D) (f : EF) : EF := fun ρ μ => (f ρ μ).bind fun a μ1 =>
  ofO ((view μ1 a).bind fun x => (op x).map W.d) μ1
def aNil : AF := fun _ μ => .ok [] μ
def aCons (f : EF) (r : AF) : AF := fun ρ μ => (f ρ μ).bind fun a μ1 => (r ρ μ1).bind fun as μ2 => .ok (a :: as) μ2
def eTup (a : AF) : EF := fun ρ μ => (a ρ μ).bind fun ws μ1 => ofO ((asDs ws).map fun ds => W.d (.tuple ds)) μ1
def eLst (a : AF) : EF := fun ρ μ => (a ρ μ).bind fun ws μ1 => ofO ((asDs ws).map fun ds => W.d (.list ds)) μ1
/-- a list that will be changed -/
def eLstM (a : AF) : EF := fun ρ μ => (a ρ μ).bind fun ws μ1 => match asDs ws with
  | some ds => .ok (.m μ1.length) (μ1 ++ [some (.lst ds)])
  | none => .no
def eCall (g : GF) (a : AF) : EF := fun ρ μ => (a ρ μ).bind g
/-- a builtin's call, by what its arguments show -/
def eBlt (h : List D → Option D) (a : AF) : EF := fun ρ μ => (a ρ μ).bind fun ws μ1 => ofO ((views μ1 ws).bind fun ds => (h ds).map W.d) μ1
def isB : W → Option Bool
  | .d (.bool b) => some b
  | _ => none
@[simp] theorem isB_d (b : Bool) : isB (.d (.bool b)) = some b := rfl
/-- behind a test -/
def R.test (r : R W) (f : Bool → Sto → R W) : R W := r.bind fun w μ => match isB w with
  | some b => f b μ
  | none => .no
@[simp] theorem R.test_ok (b : Bool) (μ : Sto) (f : Bool → Sto → R W) : (R.ok (.d (.bool b)) μ).test f = f b μ := rfl
@[simp] theorem R.test_er (x : Exn) (μ : Sto) (f : Bool → Sto → R W) : (R.er x μ : R W).test f = .er x μ := rfl
def eAnd (f g : EF) : EF := fun ρ μ => (f ρ μ).test fun b μ1 => if b = true then g ρ μ1 else .ok (.d (.bool false)) μ1
def eOr (f g : EF) : EF := fun ρ μ => (f ρ μ).test fun b μ1 => if b = true then .ok (.d (.bool true)) μ1 else g ρ μ1
def eNot (f : EF) : EF := fun ρ μ => (f ρ μ).test fun b μ1 => .ok (.d (.bool (!b))) μ1
def eIf (c f g : EF) : EF := fun ρ μ => (c ρ μ).test fun b μ1 => if b = true then f ρ μ1 else g ρ μ1
/-- a op b op' c -/
def eChain (op op' : D → D → Option D) (f g h : EF) : EF := fun ρ μ => (f ρ μ).bind fun a μ1 => (g ρ μ1).bind fun b μ2 =>
  (ofO ((view μ2 a).bind fun x => (view μ2 b).bind fun y => (op x y).map W.d) μ2).test fun k μ3 => if k = true then
    (h ρ μ3).bind fun c μ4 => ofO ((view μ4 b).bind fun x => (view μ4 c).bind fun y => (op' x y).map W.d) μ4
  else .ok (.d (.bool false)) μ3
def isNonW : W → Bool
  | .d .none => true
  | _ => false
def eIsN (f : EF) : EF := fun ρ μ => (f ρ μ).bind fun a μ1 => .ok (.d (.bool (isNonW a))) μ1
def eNotN (f : EF) : EF := fun ρ μ => (f ρ μ).bind fun a μ1 => .ok (.d (.bool (!isNonW a))) μ1
/-- a slice -/
def ePart (o : Option EF) : Env → Sto → R (Option Int) := fun ρ μ => match o with
  | none => .ok none μ
  | some f => (f ρ μ).bind fun w μ1 => match w with
    | .d (.int i) => .ok (some i) μ1
    | _ => .no
def eSl (cut : D → Option Int → Option Int → Option D) (f : EF) (lo hi : Option EF) : EF := fun ρ μ => (f ρ μ).bind fun a μ1 =>
  (ePart lo ρ μ1).bind fun l μ2 => (ePart hi ρ μ2).bind fun h μ3 => ofO ((view μ3 a).bind fun x => (cut x l h).map W.d) μ3

/-! ### operators -/
def LIM : Nat := 1000000
def bI (b : Bool) : Int := if b = true then (1 : Int) else 0
def dAdd : D → D → Option D
  | .int a, .int b => some (.int (a + b))
  | .bool a, .int b => some (.int (bI a + b))
  | .str a, .str b => if a.length + b.length ≤ LIM then some (.str (a ++ b)) else none
  | .list a, .list b => if a.length + b.length ≤ LIM then some (.list (a ++ b)) else none
  | .tuple a, .tuple b => if a.length + b.length ≤ LIM then some (.tuple (a ++ b)) else none
  | _, _ => none
def dSub : D → D → Option D
  | .int a, .int b => some (.int (a - b))
  | .bool a, .int b => some (.int (bI a - b))
  | _, _ => none
/-- a product that the machine takes -/
def mulOk (a b : Int) : Prop := (a.natAbs < 2 ^ 64 ∨ b.natAbs < 2 ^ 64) ∨ (a.natAbs < 2 ^ 1000 ∧ b.natAbs < 2 ^ 1000)
instance (a b : Int) : Decidable (mulOk a b) := by unfold mulOk; infer_instance
def dMul : D → D → Option D
  | .int a, .int b => if mulOk a b then some (.int (a * b)) else none
  | .list a, .int n => if 0 ≤ n ∧ n ≤ 1000 ∧ a.length ≤ 1000 then some (.list (List.replicate n.toNat a).flatten) else none
  | .tuple a, .int n => if 2 ≤ n ∧ n ≤ 1000 ∧ a.length ≤ 1000 ∧ a ≠ [] then some (.tuple (List.replicate n.toNat a).flatten) else none
  | .str a, .int n => if 2 ≤ n ∧ n ≤ 1000 ∧ 1 ≤ a.length ∧ a.length ≤ 1000 then some (.str ⟨(List.replicate n.toNat a.cps).foldl (· ++ ·) #[]⟩) else none
  | _, _ => none
def divOk (b : Int) : Prop := 0 < b ∧ b < 2 ^ 1000
instance (b : Int) : Decidable (divOk b) := by unfold divOk; infer_instance
def dDiv : D → D → Option D
  | .int a, .int b => if divOk b then some (.int (a / b)) else none
  | _, _ => none
def dMod : D → D → Option D
  | .int a, .int b => if 0 < b then some (.int (a % b)) else none
  | _, _ => none
def dPow : D → D → Option D
  | .int a, .int b => if 0 ≤ b ∧ b ≤ 1000 ∧ a.natAbs < 2 ^ 64 then some (.int (a ^ b.toNat)) else none
  | _, _ => none
def dNeg : D → Option D
  | .int a => some (.int (-a))
  | .bool a => some (.int (-(bI a)))
  | _ => none
def cmpI (p : Int → Int → Bool) : D → D → Option D
  | .int a, .int b => some (.bool (p a b))
  | _, _ => none
def dLt := cmpI fun a b => decide (a < b)
def dLe := cmpI fun a b => decide (a ≤ b)
def dGt := cmpI fun a b => decide (b < a)
def dGe := cmpI fun a b => decide (b ≤ a)
def dEq (a b : D) : Option D := if SeqAt.shaped a = true ∧ SeqAt.shaped b = true then some (.bool (PyData.eqv a b)) else none
def dNe (a b : D) : Option D := if SeqAt.shaped a = true ∧ SeqAt.shaped b = true then some (.bool (!PyData.eqv a b)) else none
def dIsB : D → D → Option D
  | .bool a, .bool b => some (.bool (a == b))
  | _, _ => none
def dIsNotB : D → D → Option D
  | .bool a, .bool b => some (.bool (a != b))
  | _, _ => none
def flatD : D → Bool
  | .none => true
  | .bool _ => true
  | .int _ => true
  | .str _ => true
  | _ => false
/-- x in xs, of flat things; a sign in a text -/
def dIn : D → D → Option D
  | x, .list l => if flatD x = true ∧ l.all flatD = true then some (.bool (l.any fun y => PyData.eqv y x)) else none
  | x, .tuple l => if flatD x = true ∧ l.all flatD = true then some (.bool (l.any fun y => PyData.eqv y x)) else none
  | .str x, .str y => if x.cps.size = 1 then some (.bool (decide (x.cps.getD 0 0 ∈ y.cps.toList))) else none
  | _, _ => none
def dNotIn (x y : D) : Option D := match dIn x y with
  | some (.bool b) => some (.bool (!b))
  | _ => none
/-- an item -/
def ixI (n : Nat) (i : Int) : Option Nat := if 0 ≤ i then (if i < n then some i.toNat else none) else (if -(n : Int) ≤ i then some (i + n).toNat else none)
def dIx : D → D → Option D
  | .list l, .int i => (ixI l.length i).bind fun k => l[k]?
  | .tuple l, .int i => (ixI l.length i).bind fun k => l[k]?
  | _, _ => none
def six (n d : Nat) : Option Int → Nat
  | none => d
  | some v => if v < 0 then (v + (n : Int)).toNat else min v.toNat n
def cutL {α : Type} (l : List α) (lo hi : Option Int) : List α := (l.drop (six l.length 0 lo)).take (six l.length l.length hi - six l.length 0 lo)
def cutT (z : Str) (lo hi : Option Int) : Str := ⟨(cutL z.cps.toList lo hi).toArray⟩
def dCut : D → Option Int → Option Int → Option D
  | .str z, lo, hi => if z.length ≤ LIM then some (.str (cutT z lo hi)) else none
  | .list l, lo, hi => some (.list (cutL l lo hi))
  | .tuple l, lo, hi => some (.tuple (cutL l lo hi))
  | _, _, _ => none
def dRevL : D → Option D
  | .list l => some (.list l.reverse)
  | _ => none
def dRev : D → Option D
  | .list l => some (.list l.reverse)
  | .tuple l => some (.tuple l.reverse)
  | _ => none

/-! ### builtins -/
def bLen : List D → Option D
  | [.list l] => some (.int l.length)
  | [.tuple l] => some (.int l.length)
  | [.str x] => if x.length ≤ LIM then some (.int x.length) else none
  | _ => none
def bMax2 : List D → Option D
  | [.int a, .int b] => some (.int (if b > a then b else a))
  | _ => none
def bMin2 : List D → Option D
  | [.int a, .int b] => some (.int (if b < a then b else a))
  | _ => none
def bInt : List D → Option D
  | [.int a] => some (.int a)
  | [.str a] => (PySem.intText? a).bind fun n => if a.length ≤ 640 then some (.int n) else none
  | [.bool b] => some (.int (if b then 1 else 0))
  | _ => none
def bStr : List D → Option D
  | [.int i] => if i.natAbs.log2 < 1920 then some (.str (toString i)) else none
  | [.str a] => some (.str a)
  | [.bool b] => some (.str (if b then "True" else "False"))
  | _ => none
/-- what a value is worth as a test -/
def truD : D → Option Bool
  | .none => some false
  | .bool b => some b
  | .int i => some (i != 0)
  | .str x => if x.length ≤ LIM then some ((x.length : Int) != 0) else none
  | .list l => some (!l.isEmpty)
  | .tuple l => some (!l.isEmpty)
  | _ => none
def eNotT (f : EF) : EF := eUn (fun d => (truD d).map fun b => .bool (!b)) f
def intsOf : List D → Option (List Int)
  | [] => some []
  | .int x :: r => (intsOf r).map (x :: ·)
  | _ :: _ => none
def insI (x : Int) : List Int → List Int
  | [] => [x]
  | y :: r => if x ≤ y then x :: y :: r else y :: insI x r
def isort : List Int → List Int
  | [] => []
  | x :: r => insI x (isort r)
def bSorted : List D → Option D
  | [.list l] => (intsOf l).map fun ns => .list ((isort ns).map .int)
  | _ => none
def bAbs : List D → Option D
  | [.int a] => some (.int (if a < 0 then -a else a))
  | _ => none
def allB : List D → Option Bool
  | [] => some true
  | .bool b :: r => (allB r).map (b && ·)
  | _ :: _ => none
def bAll : List D → Option D
  | [.list l] => (allB l).map .bool
  | _ => none
def bTup : List D → Option D
  | [.list l] => some (.tuple l)
  | [.tuple l] => some (.tuple l)
  | _ => none
def bLst : List D → Option D
  | [.list l] => some (.list l)
  | [.tuple l] => some (.list l)
  | _ => none
def sumI : List D → Option Int
  | [] => some 0
  | .int i :: r => (sumI r).map (i + ·)
  | _ :: _ => none
def bSum : List D → Option D
  | [.list l] => (sumI l).map .int
  | _ => none
/-- isinstance by the kinds that are asked -/
inductive Ty where | int | bool | str | tuple | list
def isTy : Ty → D → Bool
  | .int, .int _ => true
  | .int, .bool _ => true
  | .bool, .bool _ => true
  | .str, .str _ => true
  | .tuple, .tuple _ => true
  | .list, .list _ => true
  | _, _ => false
def eIsi (t : Ty) (f : EF) : EF := eUn (fun d => some (.bool (isTy t d))) f

/-! ### statements -/
def sNil : SF := fun ρ μ => .nx ρ μ
def sSeq (F G : SF) : SF := fun ρ μ => match F ρ μ with
  | .nx ρ1 μ1 => G ρ1 μ1
  | r => r
def sAsg (i : Nat) (f : EF) : SF := fun ρ μ => (f ρ μ).bindS fun w μ1 => .nx (ρ.set i (some w)) μ1
/-- a, b = x, y -/
def sPar (i j : Nat) (f g : EF) : SF := fun ρ μ => (f ρ μ).bindS fun w μ1 => (g ρ μ1).bindS fun u μ2 => .nx ((ρ.set i (some w)).set j (some u)) μ2
/-- targets of plain data -/
abbrev TF := D → Env → Option Env
def tName (i : Nat) : TF := fun d ρ => some (ρ.set i (some (.d d)))
def tTups : List TF → List D → Env → Option Env
  | [], [], ρ => some ρ
  | t :: ts, d :: ds, ρ => (t d ρ).bind fun ρ1 => tTups ts ds ρ1
  | _, _, _ => none
def tTup (ts : List TF) : TF := fun d ρ => match d with
  | .tuple ds => tTups ts ds ρ
  | _ => none
/-- the items of a list -/
def tUnl (ts : List TF) : TF := fun d ρ => match d with
  | .list ds => tTups ts ds ρ
  | _ => none
def sTgt (t : TF) (f : EF) : SF := fun ρ μ => (f ρ μ).bindS fun w μ1 => match w with
  | .d d => (match t d ρ with | some ρ1 => .nx ρ1 μ1 | none => .no)
  | _ => .no
def sDrop (f : EF) : SF := fun ρ μ => (f ρ μ).bindS fun _ μ1 => .nx ρ μ1
def sRet (f : EF) : SF := fun ρ μ => (f ρ μ).bindS fun w μ1 => .rt w μ1
/-- return of a name whose list is not changed any more -/
def sRetF (f : EF) : SF := fun ρ μ => (f ρ μ).bindS fun w μ1 => match view μ1 w with
  | some d => .rt (.d d) (match w with | .m k => μ1.set k none | _ => μ1)
  | none => .no
def RS.test (r : R W) (f : Bool → Sto → RS) : RS := r.bindS fun w μ => match isB w with
  | some b => f b μ
  | none => .no
@[simp] theorem RS.test_ok (b : Bool) (μ : Sto) (f : Bool → Sto → RS) : RS.test (R.ok (.d (.bool b)) μ) f = f b μ := rfl
def sIf (c : EF) (F G : SF) : SF := fun ρ μ => RS.test (c ρ μ) fun b μ1 => if b = true then F ρ μ1 else G ρ μ1
def sBreak : SF := fun ρ μ => .bk ρ μ
def sCont : SF := fun ρ μ => .ct ρ μ
def sRaise (x : Str) : SF := fun _ μ => .er ⟨x, none⟩ μ
/-- the items of what a for walks -/
abbrev IF := Env → Sto → R (List D)
def charsOf (x : Str) : List D := x.cps.toList.map fun c => .str ⟨#[c]⟩
def items : D → Option (List D)
  | .str x => if x.length ≤ LIM then some (charsOf x) else none
  | .list l => some l
  | .tuple l => some l
  | _ => none
def iSeq (f : EF) : IF := fun ρ μ => (f ρ μ).bind fun w μ1 => match w with
  | .d d => ofO (items d) μ1
  | _ => .no
def rangeD (a b : Int) : List D := (List.range (b - a).toNat).map fun (k : Nat) => PyData.int (a + k)
def iRange1 (f : EF) : IF := fun ρ μ => (f ρ μ).bind fun w μ1 => match w with
  | .d (.int b) => if -(LIM : Int) ≤ b ∧ b ≤ LIM then .ok (rangeD 0 b) μ1 else .no
  | _ => .no
def iRange2 (f g : EF) : IF := fun ρ μ => (f ρ μ).bind fun w μ1 => (g ρ μ1).bind fun u μ2 => match w, u with
  | .d (.int a), .d (.int b) => if -(LIM : Int) ≤ a ∧ a ≤ LIM ∧ -(LIM : Int) ≤ b ∧ b ≤ LIM then .ok (rangeD a b) μ2 else .no
  | _, _ => .no
def forL (t : TF) (B : SF) : List D → SF
  | [] => fun ρ μ => .nx ρ μ
  | d :: r => fun ρ μ => match t d ρ with
    | none => .no
    | some ρ1 => match B ρ1 μ with
      | .nx ρ2 μ2 => forL t B r ρ2 μ2
      | .ct ρ2 μ2 => forL t B r ρ2 μ2
      | .bk ρ2 μ2 => .nx ρ2 μ2
      | .rt w μ2 => .rt w μ2
      | .er x μ2 => .er x μ2
      | .no => .no
def sFor (t : TF) (it : IF) (B : SF) : SF := fun ρ μ => (it ρ μ).bindS fun l μ1 => forL t B l ρ μ1
def whileN (c : EF) (B : SF) : Nat → SF
  | 0 => fun _ _ => .no
  | n + 1 => fun ρ μ => RS.test (c ρ μ) fun b μ1 => if b = true then (match B ρ μ1 with
      | .nx ρ2 μ2 => whileN c B n ρ2 μ2
      | .ct ρ2 μ2 => whileN c B n ρ2 μ2
      | .bk ρ2 μ2 => .nx ρ2 μ2
      | .rt w μ2 => .rt w μ2
      | .er x μ2 => .er x μ2
      | .no => .no) else .nx ρ μ1
/-- a while, of at most so many turns -/
def sWhile (n : Nat) (c : EF) (B : SF) : SF := whileN c B n

/-! ### comprehensions -/
def wipeE (ρ : Env) : List Nat → Env
  | [] => ρ
  | i :: r => (wipeE ρ r).set i none
def lcL (t : TF) (c : EF) (e : EF) (ρ : Env) : List D → List D → Sto → R W
  | [], acc, μ => .ok (.d (.list acc)) μ
  | d :: r, acc, μ => match t d ρ with
    | none => .no
    | some ρ1 => match c ρ1 μ with
      | .ok (.d (.bool true)) μ1 => match e ρ1 μ1 with
        | .ok (.d y) μ2 => lcL t c e ρ r (acc ++ [y]) μ2
        | _ => .no
      | .ok (.d (.bool false)) μ1 => lcL t c e ρ r acc μ1
      | _ => .no
def eYes : EF := eBl true
def eLc (vs : List Nat) (t : TF) (it : IF) (c : EF) (e : EF) : EF := fun ρ μ => (it ρ μ).bind fun l μ1 => lcL t c e (wipeE ρ vs) l [] μ1

/-! ### lists that change -/
def eApp (f e : EF) : EF := fun ρ μ => (f ρ μ).bind fun w μ1 => match w with
  | .m k => (match mlist μ1 k with
    | some _ => (e ρ μ1).bind fun u μ2 => (match u, mlist μ2 k with
      | .d d, some l => if l.length < LIM then .ok (.d .none) (μ2.set k (some (.lst (l ++ [d])))) else .no
      | _, _ => .no)
    | none => .no)
  | _ => .no
/-- o[i] = e -/
def sSub (o i e : EF) : SF := fun ρ μ => (e ρ μ).bindS fun u μ1 => (o ρ μ1).bindS fun w μ2 => (i ρ μ2).bindS fun j μ3 => match u, w, j with
  | .d d, .m k, .d (.int n) => (match mlist μ3 k with
    | some l => (match ixI l.length n with
      | some p => .nx ρ (μ3.set k (some (.lst (l.set p d))))
      | none => .no)
    | none => .no)
  | _, _, _ => .no

/-! ### methods of texts -/
def eM0 (op : Str → Option D) (f : EF) : EF := fun ρ μ => (f ρ μ).bind fun w μ1 => match w with
  | .d (.str a) => ofO ((op a).map W.d) μ1
  | _ => .no
def eM1 (op : Str → D → Option D) (f g : EF) : EF := fun ρ μ => (f ρ μ).bind fun w μ1 => match w with
  | .d (.str a) => (g ρ μ1).bind fun u μ2 => ofO ((view μ2 u).bind fun y => (op a y).map W.d) μ2
  | _ => .no
def mUpper (a : Str) : Option D := if a.length ≤ LIM then some (.str (Txt.upper a)) else none
def strsOf : List D → Option (List Str)
  | [] => some []
  | .str x :: r => (strsOf r).map (x :: ·)
  | _ :: _ => none
def mSplit (a : Str) : D → Option D
  | .str b => if b.length ≠ 0 ∧ a.length ≤ LIM then some (.list ((Txt.split a b).map .str)) else none
  | _ => none
def joinOk (a : Str) (ys : List Str) : Prop := (ys.map (·.length)).sum + ys.length * a.length ≤ LIM
instance (a : Str) (ys : List Str) : Decidable (joinOk a ys) := by unfold joinOk; infer_instance
def mJoin (a : Str) : D → Option D
  | .list l => (strsOf l).bind fun ys => if joinOk a ys then some (.str (Txt.join a ys)) else none
  | .tuple l => (strsOf l).bind fun ys => if joinOk a ys then some (.str (Txt.join a ys)) else none
  | _ => none
/-- isinstance of the error that is handled -/
def eIsX (a : Nat) (b : Bool) (f : EF) : EF := fun ρ μ => (f ρ μ).bind fun w μ1 => match w with
  | .x k => if k = a then .ok (.d (.bool b)) μ1 else .no
  | _ => .no
/-- zip of two lists -/
def iZipD (f g : EF) : IF := fun ρ μ => (f ρ μ).bind fun w μ1 => (g ρ μ1).bind fun u μ2 => match w, u with
  | .d (.list l), .d (.list r) => if l.length ≤ LIM then .ok ((l.zip r).map fun p => .tuple [p.1, p.2]) μ2 else .no
  | _, _ => .no

def enumD (l : List D) : List D := l.zipIdx.map fun p => .tuple [.int (p.2 : Nat), p.1]
/-- enumerate of a tuple or a list -/
def iEnumD (f : EF) : IF := fun ρ μ => (f ρ μ).bind fun w μ1 => match w with
  | .d (.tuple l) => if l.length ≤ LIM then .ok (enumD l) μ1 else .no
  | .d (.list l) => if l.length ≤ LIM then .ok (enumD l) μ1 else .no
  | _ => .no

def boolsL : List D → Option (List Bool)
  | [] => some []
  | .bool b :: l => (boolsL l).map (b :: ·)
  | _ :: _ => none
/-- how many truth values -/
def cntB (bs : List Bool) : Nat := (if true ∈ bs then 1 else 0) + (if false ∈ bs then 1 else 0)
/-- len(set(list of truth values)) -/
def eLenSet (f : EF) : EF := fun ρ μ => (f ρ μ).bind fun w μ1 => match w with
  | .d (.list l) => match boolsL l with
    | some bs => if bs.length ≤ 1000 then .ok (.d (.int (cntB bs : Nat))) μ1 else .no
    | none => .no
  | _ => .no

/-! ### a call that is tried -/
def eTry (nm : Exn → Option Str) (f : EF) : EF := fun ρ μ => match f ρ μ with
  | .ok _ μ1 => .ok (.d (.str "")) μ1
  | .er x μ1 => ofO ((nm x).map fun s => W.d (.str s)) μ1
  | .no => .no

/-- list + list, for a list that will be changed -/
def eCatM (f g : EF) : EF := fun ρ μ => (f ρ μ).bind fun a μ1 => (g ρ μ1).bind fun b μ2 => match view μ2 a, view μ2 b with
  | some (.list x), some (.list y) => if x.length + y.length ≤ LIM then .ok (.m μ2.length) (μ2 ++ [some (.lst (x ++ y))]) else .no
  | _, _ => .no
/-- from here on a list is not changed any more -/
def sFrz (i : Nat) : SF := fun ρ μ => match ρ[i]? with
  | some (some (.m k)) => (match mlist μ k with | some l => .nx (ρ.set i (some (.d (.list l)))) (μ.set k none) | none => .no)
  | _ => .no
/-! ### defs as values -/
/-- a comprehension over things that are written one behind another (defs, too) -/
def lcW (i : Nat) (e : EF) (ρ : Env) : List W → List D → Sto → R W
  | [], acc, μ => .ok (.d (.list acc)) μ
  | w :: r, acc, μ => match e (ρ.set i (some w)) μ with
    | .ok (.d y) μ1 => lcW i e ρ r (acc ++ [y]) μ1
    | _ => .no
def eLcW (vs : List Nat) (i : Nat) (r : AF) (e : EF) : EF := fun ρ μ => (r ρ μ).bind fun ws μ1 => lcW i e (wipeE ρ vs) ws [] μ1
/-- a call of a name that holds one of several defs -/
def eCallV (i : Nat) (gs : List (Str × GF)) (a : AF) : EF := fun ρ μ => match ρ[i]? with
  | some (some (.f x)) => (match gs.lookup x with | some g => (a ρ μ).bind g | none => .no)
  | _ => .no

/-! ### defs -/
def startE (n : Nat) (ws : List W) : Env := ws.map some ++ List.replicate (n - ws.length) none
def fin (n : Nat) : RS → R W
  | .nx _ μ => .ok (.d .none) (μ.take n)
  | .rt (.d d) μ => .ok (.d d) (μ.take n)
  | .rt (.f x) μ => .ok (.f x) (μ.take n)
  | .rt (.m k) μ => if k < n then .ok (.m k) (μ.take n) else if k = n then .ok (.m k) (μ.take (n + 1)) else .no
  | .er x μ => .er x (μ.take n)
  | _ => .no
/-- a def of so many names, p of them its parameters -/
def fnOf (p n : Nat) (F : SF) : GF := fun ws μ => if ws.length = p then fin μ.length (F (startE n ws) μ) else .no

/-! ### an error's names -/
def ownCls : List Str := ["InvalidChange", "InvalidPiece", "InvalidStatement", "InvalidWorth", "InvalidNumber", "InvalidOrder", "InvalidPrices", "InvalidPairs", "InvalidText", "InvalidIndex", "InvalidRow", "InvalidTable", "Unlike", "Done", "NothingToUndo", "TooMany"]
def labs : List Str := ["change value", "piece value", "statement value", "worth value", "number value", "order value", "prices value", "pairs value", "text value", "index value", "row value", "table value", "unlike value", "done value", "undo value", "many value"]
/-- what isinstance answers, one class behind another, of an error of class i -/
def bOf (i j : Nat) : Bool := j == i || j == 16
def F_names (a : Nat) (b : Nat → Bool) : SF :=
  (sSeq (sAsg 1 (eLst (aCons (eIsX a (b 0) (eVar 0)) (aCons (eIsX a (b 1) (eVar 0)) (aCons (eIsX a (b 2) (eVar 0)) aNil)))))
  (sSeq (sAsg 1 (eOp dAdd (eVar 1) (eLst (aCons (eIsX a (b 3) (eVar 0)) (aCons (eIsX a (b 4) (eVar 0)) (aCons (eIsX a (b 5) (eVar 0)) aNil))))))
  (sSeq (sAsg 1 (eOp dAdd (eVar 1) (eLst (aCons (eIsX a (b 6) (eVar 0)) (aCons (eIsX a (b 7) (eVar 0)) (aCons (eIsX a (b 8) (eVar 0)) aNil))))))
  (sSeq (sAsg 1 (eOp dAdd (eVar 1) (eLst (aCons (eIsX a (b 9) (eVar 0)) (aCons (eIsX a (b 10) (eVar 0)) (aCons (eIsX a (b 11) (eVar 0)) aNil))))))
  (sSeq (sAsg 1 (eOp dAdd (eVar 1) (eLst (aCons (eIsX a (b 12) (eVar 0)) (aCons (eIsX a (b 13) (eVar 0)) (aCons (eIsX a (b 14) (eVar 0)) aNil))))))
  (sSeq (sAsg 1 (eOp dAdd (eVar 1) (eLst (aCons (eIsX a (b 15) (eVar 0)) (aCons (eIsX a (b 16) (eVar 0)) aNil)))))
  (sSeq (sAsg 2 (eStr "change piece statement worth number order prices pairs text index row table unlike done undo many value"))
  (sRet (eM1 mJoin (eStr " ") (eLc [3, 4] (tTup [tName 3, tName 4]) (iZipD (eM1 mSplit (eVar 2) (eStr " ")) (eVar 1)) (eVar 4) (eVar 3)))))))))))
theorem eVar1_at (x w : _) (ρ : Env) (μ : Sto) : eVar 1 (x :: some w :: ρ) μ = .ok w μ := rfl
theorem dAdd_short (a b : List D) (h : a.length + b.length ≤ LIM) : dAdd (.list a) (.list b) = some (.list (a ++ b)) := if_pos h
theorem eIsX_at (a : Nat) (b : Bool) (ρ : Env) (μ : Sto) : eIsX a b (eVar 0) (some (.x a) :: ρ) μ = .ok (.d (.bool b)) μ := by
  simp [eIsX, eVar]
def nmC (cl : List Str) (x : Exn) : Option Str := match x.arg with
  | some _ => none
  | none => if cl.contains x.cls then (ownCls.idxOf? x.cls).bind fun i => labs[i]? else none
def boolsOf (b : Nat → Bool) : List D := [.bool (b 0), .bool (b 1), .bool (b 2), .bool (b 3), .bool (b 4), .bool (b 5), .bool (b 6), .bool (b 7), .bool (b 8), .bool (b 9), .bool (b 10), .bool (b 11), .bool (b 12), .bool (b 13), .bool (b 14), .bool (b 15), .bool (b 16)]
theorem names_eval0 (a : Nat) (b : Nat → Bool) (μ : Sto) : F_names a b (startE 5 [.x a]) μ =
    sRet (eM1 mJoin (eStr " ") (eLc [3, 4] (tTup [tName 3, tName 4]) (iZipD (eM1 mSplit (eVar 2) (eStr " ")) (eVar 1)) (eVar 4) (eVar 3))) [some (.x a), some (.d (.list (boolsOf b))), some (.d (.str "change piece statement worth number order prices pairs text index row table unlike done undo many value")), none, none] μ := by
  have s0 : startE 5 [.x a] = some (.x a) :: [none, none, none, none] := rfl
  rw [s0]
  unfold F_names
  simp [sSeq, sAsg, eLst, aCons, aNil, eIsX_at, eVar1_at, R.bind_ok, R.bindS_ok, asDs_cons, asDs_nil, Option.map_some, ofO_some, List.set_cons_succ, List.set_cons_zero, eOp, view_d, Option.bind_some,
    dAdd, List.cons_append, List.nil_append, eStr, eC, List.length_cons, List.length_nil, LIM, Nat.reduceAdd, Nat.reduceLeDiff]
  rfl
theorem names_eval (a : Nat) : ∀ (i : Nat) (s : Str) (μ : Sto), labs[i]? = some s → F_names a (bOf i) (startE 5 [.x a]) μ = .rt (.d (.str s)) μ := by
  intro i s μ h
  rw [names_eval0]
  exact match i, h with
  | 0, h => by cases h; kernel_rfl
  | 1, h => by cases h; kernel_rfl
  | 2, h => by cases h; kernel_rfl
  | 3, h => by cases h; kernel_rfl
  | 4, h => by cases h; kernel_rfl
  | 5, h => by cases h; kernel_rfl
  | 6, h => by cases h; kernel_rfl
  | 7, h => by cases h; kernel_rfl
  | 8, h => by cases h; kernel_rfl
  | 9, h => by cases h; kernel_rfl
  | 10, h => by cases h; kernel_rfl
  | 11, h => by cases h; kernel_rfl
  | 12, h => by cases h; kernel_rfl
  | 13, h => by cases h; kernel_rfl
  | 14, h => by cases h; kernel_rfl
  | 15, h => by cases h; kernel_rfl
  | n + 16, h => by cases h
end Mi

set_option Elab.async false
set_option linter.all false
set_option maxRecDepth 100000
/-! The mirror's data on the abstract heap. -/
namespace L3
open PySem PySem.Spec PyProof.Rows L2 Mi

/-- what stands around: the written part, the module's names, the tables of lambdas -/
structure Cv where
  K : PySem.W.Frag
  mg : Str → Option Value
  T : List (Addr × Str)
/-- the addresses of one's own changing things; of those that nobody knows of yet (a comprehension's new list) -/
structure Al where
  own : List Addr
  hid : List Addr
def Own (α : Al) (μ : Sto) (a : Addr) : Prop := (∃ (k : Nat) (c : Cell), α.own[k]? = some a ∧ μ[k]? = some (some c)) ∨ a ∈ α.hid
mutual
inductive Rp (K : PySem.W.Frag) (H : Hp) (M : Addr → Prop) : V → D → Prop
  | non : Rp K H M .non .none
  | bl (b : Bool) : Rp K H M (.bl b) (.bool b)
  | int (i : Int) : Rp K H M (.int i) (.int i)
  | str (x : Str) : Rp K H M (.str x) (.str x)
  | lst {a : Addr} {xs : List V} {ds : List D} : Rd H a (.lst xs) → ¬ M a → RpAll K H M xs ds → Rp K H M (.ref a) (.list ds)
  | tup {a : Addr} {xs : List V} {ds : List D} : SqT K H a xs → RpAll K H M xs ds → Rp K H M (.ref a) (.tuple ds)
inductive RpAll (K : PySem.W.Frag) (H : Hp) (M : Addr → Prop) : List V → List D → Prop
  | nil : RpAll K H M [] []
  | cons {v : V} {vs : List V} {d : D} {ds : List D} : Rp K H M v d → RpAll K H M vs ds → RpAll K H M (v :: vs) (d :: ds)
end
/-- what a value shows, at the top a changing list too -/
def RpT (K : PySem.W.Frag) (H : Hp) (M : Addr → Prop) (v : V) (d : D) : Prop :=
  Rp K H M v d ∨ ∃ a xs ds, v = .ref a ∧ d = .list ds ∧ Rd H a (.lst xs) ∧ RpAll K H M xs ds
def RpW (C : Cv) (H : Hp) (α : Al) (μ : Sto) (v : V) : W → Prop
  | .d d => Rp C.K H (Own α μ) v d
  | .m k => ∃ a, α.own[k]? = some a ∧ v = .ref a
  | .f x => ∃ a, C.mg x = some (.ref a) ∧ v = .ref a
  | .x a => v = .ref a
inductive RpWs (C : Cv) (H : Hp) (α : Al) (μ : Sto) : List V → List W → Prop
  | nil : RpWs C H α μ [] []
  | cons {v : V} {vs : List V} {w : W} {ws : List W} : RpW C H α μ v w → RpWs C H α μ vs ws → RpWs C H α μ (v :: vs) (w :: ws)
def NT (o : HO) : Prop := ∀ ps, o ≠ .tbl ps
structure Ext (H : Hp) (M : Addr → Prop) (H' : Hp) (M' : Addr → Prop) : Prop where
  any : ∀ b o, H b = some o → ¬ M b → NT o → H' b = some o ∧ ¬ M' b
  tup : ∀ b xs, H b = some (.tup xs) → H' b = some (.tup xs)
  frz : ∀ b o u, H b = some (.frz o u) → H' b = some (.frz o u)
theorem Ext.refl (H : Hp) (M : Addr → Prop) : Ext H M H M := ⟨fun _ _ h n _ => ⟨h, n⟩, fun _ _ h => h, fun _ _ _ h => h⟩
theorem Ext.trans {H H1 H2 : Hp} {M M1 M2 : Addr → Prop} (a : Ext H M H1 M1) (b : Ext H1 M1 H2 M2) : Ext H M H2 M2 :=
  ⟨fun c o h n t => b.any c o (a.any c o h n t).1 (a.any c o h n t).2 t, fun c xs h => b.tup c xs (a.tup c xs h), fun c o u h => b.frz c o u (a.frz c o u h)⟩
theorem Ext.rd {H H' : Hp} {M M' : Addr → Prop} (e : Ext H M H' M') {a : Addr} {xs : List V} (h : Rd H a (.lst xs)) (n : ¬ M a) : Rd H' a (.lst xs) ∧ ¬ M' a := by
  rcases h with h | ⟨o, h⟩
  · have q := e.any a _ h n (fun ps z => by cases z)
    exact ⟨.inl q.1, q.2⟩
  · have q := e.any a _ h n (fun ps z => by cases z)
    exact ⟨.inr ⟨o, q.1⟩, q.2⟩
theorem Ext.sqT {H H' : Hp} {M M' : Addr → Prop} (e : Ext H M H' M') {K : PySem.W.Frag} {a : Addr} {xs : List V} (h : SqT K H a xs) : SqT K H' a xs := by
  rcases h with (h | ⟨o, h⟩) | h
  · exact .inl (.inl (e.tup _ _ h))
  · exact .inl (.inr ⟨o, e.frz _ _ _ h⟩)
  · exact .inr h
mutual
theorem Rp.ext {K : PySem.W.Frag} {H H' : Hp} {M M' : Addr → Prop} (e : Ext H M H' M') : ∀ {v : V} {d : D}, Rp K H M v d → Rp K H' M' v d
  | _, _, .non => .non
  | _, _, .bl b => .bl b
  | _, _, .int i => .int i
  | _, _, .str x => .str x
  | _, _, .lst h n r => .lst (e.rd h n).1 (e.rd h n).2 (RpAll.ext e r)
  | _, _, .tup h r => .tup (e.sqT h) (RpAll.ext e r)
theorem RpAll.ext {K : PySem.W.Frag} {H H' : Hp} {M M' : Addr → Prop} (e : Ext H M H' M') : ∀ {v : List V} {d : List D}, RpAll K H M v d → RpAll K H' M' v d
  | _, _, .nil => .nil
  | _, _, .cons h t => .cons (Rp.ext e h) (RpAll.ext e t)
end
mutual
theorem Rp.dp {K : PySem.W.Frag} {H : Hp} {M : Addr → Prop} : ∀ {v : V} {d : D}, Rp K H M v d → Dp K H v d
  | _, _, .non => .non
  | _, _, .bl b => .bl b
  | _, _, .int i => .int i
  | _, _, .str x => .str x
  | _, _, .lst h n r => .lst (.inl h) (RpAll.dp r)
  | _, _, .tup h r => .tup h (RpAll.dp r)
theorem RpAll.dp {K : PySem.W.Frag} {H : Hp} {M : Addr → Prop} : ∀ {v : List V} {d : List D}, RpAll K H M v d → DpAll K H v d
  | _, _, .nil => .nil
  | _, _, .cons h t => .cons (Rp.dp h) (RpAll.dp t)
end
theorem RpT.dp {K : PySem.W.Frag} {H : Hp} {M : Addr → Prop} {v : V} {d : D} (h : RpT K H M v d) : Dp K H v d := by
  rcases h with h | ⟨a, xs, ds, rfl, rfl, h, r⟩
  · exact h.dp
  · exact .lst (.inl h) r.dp
theorem RpAll.length {K : PySem.W.Frag} {H : Hp} {M : Addr → Prop} : ∀ {vs : List V} {ds : List D}, RpAll K H M vs ds → vs.length = ds.length
  | _, _, .nil => rfl
  | _, _, .cons _ t => congrArg (· + 1) (RpAll.length t)
theorem RpAll.get {K : PySem.W.Frag} {H : Hp} {M : Addr → Prop} : ∀ {vs : List V} {ds : List D} {i : Nat} {d : D}, RpAll K H M vs ds → ds[i]? = some d → ∃ v, vs[i]? = some v ∧ Rp K H M v d
  | _, _, _, _, .nil, e => by simp at e
  | _, _, 0, _, .cons r _, e => by simp at e; subst e; exact ⟨_, rfl, r⟩
  | _, _, i + 1, d, .cons _ t, e => by
    obtain ⟨v, h1, h2⟩ := RpAll.get (i := i) (d := d) t (by simpa using e)
    exact ⟨v, by simpa using h1, h2⟩
theorem RpAll.append {K : PySem.W.Frag} {H : Hp} {M : Addr → Prop} : ∀ {vs us : List V} {ds es : List D}, RpAll K H M vs ds → RpAll K H M us es → RpAll K H M (vs ++ us) (ds ++ es)
  | _, _, _, _, .nil, s => s
  | _, _, _, _, .cons r t, s => .cons r (RpAll.append t s)
theorem RpAll.take {K : PySem.W.Frag} {H : Hp} {M : Addr → Prop} : ∀ {vs : List V} {ds : List D} (n : Nat), RpAll K H M vs ds → RpAll K H M (vs.take n) (ds.take n)
  | _, _, 0, _ => by simp; exact .nil
  | _, _, _ + 1, .nil => by simp; exact .nil
  | _, _, n + 1, .cons r t => by simp; exact .cons r (RpAll.take n t)
theorem RpAll.drop {K : PySem.W.Frag} {H : Hp} {M : Addr → Prop} : ∀ {vs : List V} {ds : List D} (n : Nat), RpAll K H M vs ds → RpAll K H M (vs.drop n) (ds.drop n)
  | _, _, 0, r => r
  | _, _, _ + 1, .nil => by simp; exact .nil
  | _, _, n + 1, .cons _ t => by simp; exact RpAll.drop n t
theorem RpAll.set {K : PySem.W.Frag} {H : Hp} {M : Addr → Prop} {v : V} {d : D} (q : Rp K H M v d) : ∀ {vs : List V} {ds : List D} (i : Nat), RpAll K H M vs ds → RpAll K H M (vs.set i v) (ds.set i d)
  | _, _, _, .nil => .nil
  | _, _, 0, .cons _ t => .cons q t
  | _, _, i + 1, .cons r t => .cons r (RpAll.set q i t)
theorem RpAll.reverse {K : PySem.W.Frag} {H : Hp} {M : Addr → Prop} : ∀ {vs : List V} {ds : List D}, RpAll K H M vs ds → RpAll K H M vs.reverse ds.reverse
  | _, _, .nil => .nil
  | _, _, .cons r t => by simp; exact (RpAll.reverse t).append (.cons r .nil)
theorem RpT.list {K : PySem.W.Frag} {H : Hp} {M : Addr → Prop} {v : V} {ds : List D} (h : RpT K H M v (.list ds)) : ∃ a xs, v = .ref a ∧ Rd H a (.lst xs) ∧ RpAll K H M xs ds := by
  rcases h with h | ⟨a, xs, es, rfl, e, h, r⟩
  · cases h with
    | lst h n r => exact ⟨_, _, rfl, h, r⟩
  · cases e
    exact ⟨a, xs, rfl, h, r⟩
theorem RpT.tuple {K : PySem.W.Frag} {H : Hp} {M : Addr → Prop} {v : V} {ds : List D} (h : RpT K H M v (.tuple ds)) : ∃ a xs, v = .ref a ∧ SqT K H a xs ∧ RpAll K H M xs ds := by
  rcases h with h | ⟨a, xs, es, rfl, e, h, r⟩
  · cases h with
    | tup h r => exact ⟨_, _, rfl, h, r⟩
  · cases e
theorem RpT.int {K : PySem.W.Frag} {H : Hp} {M : Addr → Prop} {v : V} {i : Int} (h : RpT K H M v (.int i)) : v = .int i := by
  rcases h with h | ⟨a, xs, es, rfl, e, h, r⟩
  · cases h; rfl
  · cases e
theorem RpT.bl {K : PySem.W.Frag} {H : Hp} {M : Addr → Prop} {v : V} {i : Bool} (h : RpT K H M v (.bool i)) : v = .bl i := by
  rcases h with h | ⟨a, xs, es, rfl, e, h, r⟩
  · cases h; rfl
  · cases e
theorem RpT.str {K : PySem.W.Frag} {H : Hp} {M : Addr → Prop} {v : V} {i : Str} (h : RpT K H M v (.str i)) : v = .str i := by
  rcases h with h | ⟨a, xs, es, rfl, e, h, r⟩
  · cases h; rfl
  · cases e
theorem RpT.none {K : PySem.W.Frag} {H : Hp} {M : Addr → Prop} {v : V} (h : RpT K H M v .none) : v = .non := by
  rcases h with h | ⟨a, xs, es, rfl, e, h, r⟩
  · cases h; rfl
  · cases e
theorem RpT.nodict {K : PySem.W.Frag} {H : Hp} {M : Addr → Prop} {v : V} {kvs : List (D × D)} (h : RpT K H M v (.dict kvs)) : False := by
  rcases h with h | ⟨a, xs, es, rfl, e, h, r⟩
  · cases h
  · cases e

/-! ### the store -/
def CellOk (C : Cv) (H : Hp) (α : Al) (μ : Sto) (a : Addr) : Cell → Prop
  | .lst l => ∃ xs, H a = some (.lst xs) ∧ RpAll C.K H (Own α μ) xs l
  | .ins c fs => ∃ A dx gs, C.mg c = some (.ref A) ∧ H a = some (.ins A dx gs) ∧ gs.map (·.1) = fs.map (·.1) ∧ RpAll C.K H (Own α μ) (gs.map (·.2)) (fs.map (·.2))
structure Stor (C : Cv) (H : Hp) (α : Al) (μ : Sto) : Prop where
  len : α.own.length = μ.length
  nd : (α.own ++ α.hid).Nodup
  there : ∀ a ∈ α.own ++ α.hid, ∃ o, H a = some o ∧ NT o
  cell : ∀ (k : Nat) (c : Cell), μ[k]? = some (some c) → ∃ a, α.own[k]? = some a ∧ CellOk C H α μ a c
  tabs : LamX.Tabs C.T H
structure Step (H : Hp) (α : Al) (μ : Sto) (H' : Hp) (α' : Al) (μ' : Sto) : Prop where
  ext : Ext H (Own α μ) H' (Own α' μ')
  pre : ∀ (k : Nat) (a : Addr), α.own[k]? = some a → α'.own[k]? = some a
  hid : α'.hid = α.hid
  keep : ∀ b ∈ α.hid, H' b = H b
theorem Step.refl (H : Hp) (α : Al) (μ : Sto) : Step H α μ H α μ := ⟨.refl _ _, fun _ _ h => h, rfl, fun _ _ => rfl⟩
theorem Step.trans {H H1 H2 : Hp} {α α1 α2 : Al} {μ μ1 μ2 : Sto} (a : Step H α μ H1 α1 μ1) (b : Step H1 α1 μ1 H2 α2 μ2) : Step H α μ H2 α2 μ2 :=
  ⟨a.ext.trans b.ext, fun k x h => b.pre k x (a.pre k x h), b.hid.trans a.hid, fun c h => (b.keep c (by rw [a.hid]; exact h)).trans (a.keep c h)⟩
theorem RpW.step {C : Cv} {H H' : Hp} {α α' : Al} {μ μ' : Sto} (st : Step H α μ H' α' μ') {v : V} : ∀ {w : W}, RpW C H α μ v w → RpW C H' α' μ' v w
  | .d _, h => Rp.ext st.ext h
  | .m _, ⟨a, h, e⟩ => ⟨a, st.pre _ _ h, e⟩
  | .f _, h => h
  | .x _, h => h
theorem RpWs.step {C : Cv} {H H' : Hp} {α α' : Al} {μ μ' : Sto} (st : Step H α μ H' α' μ') : ∀ {vs : List V} {ws : List W}, RpWs C H α μ vs ws → RpWs C H' α' μ' vs ws
  | _, _, .nil => .nil
  | _, _, .cons h t => .cons (h.step st) (t.step st)
theorem RpWs.length {C : Cv} {H : Hp} {α : Al} {μ : Sto} : ∀ {vs : List V} {ws : List W}, RpWs C H α μ vs ws → vs.length = ws.length
  | _, _, .nil => rfl
  | _, _, .cons _ t => congrArg (· + 1) (RpWs.length t)
theorem mlist_at {μ : Sto} {k : Nat} {l : List D} (h : mlist μ k = some l) : μ[k]? = some (some (.lst l)) := by
  unfold mlist at h
  split at h
  · rename_i l' e
    cases h
    exact e
  · cases h
theorem RpW.view {C : Cv} {H : Hp} {α : Al} {μ : Sto} (S : Stor C H α μ) {v : V} {w : W} {d : D} (h : RpW C H α μ v w) (e : view μ w = some d) : RpT C.K H (Own α μ) v d := by
  cases w with
  | d d' => cases e; exact .inl h
  | f x => cases e
  | x a => cases e
  | m k =>
    obtain ⟨a, ha, rfl⟩ := h
    cases hk : mlist μ k with
    | none => simp [Mi.view, hk] at e
    | some l =>
      simp [Mi.view, hk] at e
      subst e
      obtain ⟨a', ha', xs, hx, r⟩ := S.cell k _ (mlist_at hk)
      rw [ha] at ha'; cases ha'
      exact .inr ⟨a, xs, l, rfl, rfl, .inl hx, r⟩
theorem Stor.own_ne {C : Cv} {H : Hp} {α : Al} {μ : Sto} (S : Stor C H α μ) {a : Addr} (h : H a = none) : ¬ Own α μ a := fun z => by
  have hm : a ∈ α.own ++ α.hid := by
    rcases z with ⟨k, c, h1, h2⟩ | z
    · exact List.mem_append_left _ (List.mem_of_getElem? h1)
    · exact List.mem_append_right _ z
  obtain ⟨o, e, _⟩ := S.there a hm
  rw [h] at e; cases e
/-- all that was tracked is as it was -/
theorem Same.ext {H H' : Hp} (e : Same H H') (M : Addr → Prop) : Ext H M H' M := ⟨fun b o h n _ => ⟨e b o h, n⟩, fun b xs h => e _ _ h, fun b o u h => e _ _ h⟩
theorem same_upd {H : Hp} {p : Addr} {o : HO} (h : H p = none) : Same H (upd H p o) := fun b x e => by
  rw [upd_ne (ne_of_none e h)]
  exact e
theorem Same.step {C : Cv} {H H' : Hp} {α : Al} {μ : Sto} (S : Stor C H α μ) (e : Same H H') : Step H α μ H' α μ :=
  ⟨Same.ext e _, fun _ _ h => h, rfl, fun b hb => by obtain ⟨o, q, _⟩ := S.there b (List.mem_append_right _ hb); rw [q]; exact e b o q⟩
theorem Stor.same {C : Cv} {H H' : Hp} {α : Al} {μ : Sto} (S : Stor C H α μ) (e : Same H H') : Stor C H' α μ where
  len := S.len
  nd := S.nd
  there := fun a h => let ⟨o, q, n⟩ := S.there a h; ⟨o, e _ _ q, n⟩
  cell := fun k c h => by
    obtain ⟨a, ha, hc⟩ := S.cell k c h
    refine ⟨a, ha, ?_⟩
    cases c with
    | lst l => obtain ⟨xs, h1, h2⟩ := hc; exact ⟨xs, e _ _ h1, h2.ext (Same.ext e _)⟩
    | ins c fs => obtain ⟨A, dx, gs, h1, h2, h3, h4⟩ := hc; exact ⟨A, dx, gs, h1, e _ _ h2, h3, h4.ext (Same.ext e _)⟩
  tabs := S.tabs.ext e
/-- slots -/
structure Sl (C : Cv) (H : Hp) (α : Al) (μ : Sto) (σ : L2.St) (ρ : Mi.Env) : Prop where
  len : ρ.length = σ.length
  at_ : ∀ (i : Nat) (w : W), ρ[i]? = some (some w) → ∃ v, σ[i]? = some (some v) ∧ RpW C H α μ v w
theorem Sl.step {C : Cv} {H H' : Hp} {α α' : Al} {μ μ' : Sto} {σ : L2.St} {ρ : Mi.Env} (st : Step H α μ H' α' μ') (s : Sl C H α μ σ ρ) : Sl C H' α' μ' σ ρ :=
  ⟨s.len, fun i w h => by obtain ⟨v, h1, h2⟩ := s.at_ i w h; exact ⟨v, h1, h2.step st⟩⟩
theorem Sl.set {C : Cv} {H : Hp} {α : Al} {μ : Sto} {σ : L2.St} {ρ : Mi.Env} (s : Sl C H α μ σ ρ) {v : V} {w : W} (r : RpW C H α μ v w) (i : Nat) : Sl C H α μ (σ.set i (some v)) (ρ.set i (some w)) := by
  refine ⟨by simp [s.len], fun j u h => ?_⟩
  by_cases e : i = j
  · subst e
    rw [List.getElem?_set] at h
    simp only [if_true] at h
    split at h
    · rename_i hl
      cases h
      refine ⟨v, ?_, r⟩
      rw [List.getElem?_set]
      simp [← s.len, hl]
    · cases h
  · rw [List.getElem?_set_ne e] at h
    obtain ⟨v', h1, h2⟩ := s.at_ j u h
    exact ⟨v', by rw [List.getElem?_set_ne e]; exact h1, h2⟩
theorem Sl.wipe {C : Cv} {H : Hp} {α : Al} {μ : Sto} {σ : L2.St} {ρ : Mi.Env} (s : Sl C H α μ σ ρ) : ∀ vs : List Nat, Sl C H α μ (L2.wipe σ vs) (wipeE ρ vs)
  | [] => s
  | i :: r => by
    have q := Sl.wipe s r
    refine ⟨?_, fun j u h => ?_⟩
    · rw [L2.wipe_length]
      show ((wipeE ρ r).set i none).length = _
      rw [List.length_set, q.len, L2.wipe_length]
    · have h : ((wipeE ρ r).set i none)[j]? = some (some u) := h
      by_cases e : i = j
      · subst e
        rw [List.getElem?_set] at h
        simp only [if_true] at h
        split at h <;> cases h
      · rw [List.getElem?_set_ne e] at h
        obtain ⟨v', h1, h2⟩ := q.at_ j u h
        refine ⟨v', ?_, h2⟩
        show (L2.wipe σ (i :: r))[j]? = _
        unfold L2.wipe
        rw [List.getElem?_set_ne e]
        exact h1
/-- an exception -/
def RpX (C : Cv) (H : Hp) (cls : Value) (d : Option Addr) (x : Exn) : Prop := C.mg x.cls = some cls ∧ match x.arg with
  | none => d = none
  | some y => ∃ a v, d = some a ∧ H a = some (.xd [("limit", v)]) ∧ Rp C.K H (fun _ => False) v y

/-! ### readings -/
def PQ (C : Cv) (E : XK) (Q : VK) (H : Hp) (α : Al) (μ : Sto) : R W → Prop
  | .ok w μ' => ∀ v H' α', Step H α μ H' α' μ' → Stor C H' α' μ' → RpW C H' α' μ' v w → Q v H'
  | .er x μ' => ∀ cls d H' α', Step H α μ H' α' μ' → Stor C H' α' μ' → RpX C H' cls d x → E cls d H'
  | .no => False
theorem PQ.step {C : Cv} {E : XK} {Q : VK} {H H1 : Hp} {α α1 : Al} {μ μ1 : Sto} {r : R W} (h : PQ C E Q H α μ r) (st : Step H α μ H1 α1 μ1) : PQ C E Q H1 α1 μ1 r := by
  cases r with
  | ok w μ' => exact fun v H' α' s S q => h v H' α' (st.trans s) S q
  | er x μ' => exact fun cls d H' α' s S q => h cls d H' α' (st.trans s) S q
  | no => exact h
def tD (C : Cv) (E : XK) (f : EF) : TE := fun σ H Q => ∃ ρ α μ, Stor C H α μ ∧ Sl C H α μ σ ρ ∧ PQ C E Q H α μ (f ρ μ)
/-- the workhorse -/
theorem tD_bind {C : Cv} {E : XK} {Q Q' : VK} {H : Hp} {α : Al} {μ : Sto} {σ : L2.St} {ρ : Mi.Env} {f : EF} {k : W → Sto → R W} (S : Stor C H α μ) (sl : Sl C H α μ σ ρ) (h : PQ C E Q H α μ ((f ρ μ).bind k))
    (cont : ∀ v w H1 α1 μ1, Step H α μ H1 α1 μ1 → Stor C H1 α1 μ1 → Sl C H1 α1 μ1 σ ρ → RpW C H1 α1 μ1 v w → PQ C E Q H1 α1 μ1 (k w μ1) → Q' v H1) : tD C E f σ H Q' := by
  refine ⟨ρ, α, μ, S, sl, ?_⟩
  cases e : f ρ μ with
  | ok w μ1 =>
    rw [e] at h
    exact fun v H1 α1 st S1 r => cont v w H1 α1 μ1 st S1 (sl.step st) r (PQ.step (r := k w μ1) h st)
  | er x μ1 => rw [e] at h; exact h
  | no => rw [e] at h; exact (show False from h).elim
end L3

set_option Elab.async false
set_option linter.all false
set_option maxRecDepth 100000
/-! One rule a construct: the machine does what the mirror says. -/
namespace L3
open PySem PySem.Spec PyProof.Rows L2 Mi

abbrev CvX (X : Cx) (T : List (Addr × Str)) : Cv := ⟨X.K, X.mg, T⟩
/-- what the rules ask of the context: j calls deep there is room; E: the wish about exceptions -/
structure CK (X : Cx) (E : XK) (j : Nat) : Prop where
  calm : X.calm = true
  nd : X.N.Nodup
  room : Room j X.A
  takes : L2N.Takes X (fun cls d _ H => E cls d H)
theorem CK.passes {X : Cx} {E : XK} {j : Nat} (c : CK X E j) : Passes (L2N.CX X.prog X.w) X E := L2N.passes_call c.takes fun _ _ _ _ h => h
theorem CK.hu {X : Cx} {E : XK} {j : Nat} (c : CK X E j) : X.A.units + 64 < cLine := c.room.units
def DE (X : Cx) (T : List (Addr × Str)) (E : XK) (e : Expr) (f : EF) : Prop := PE X e (tD (CvX X T) E f)
def DT (X : Cx) (T : List (Addr × Str)) (E : XK) (e : Expr) (f : EF) : Prop := PT X e (fun σ H Q => tD (CvX X T) E f σ H fun v H1 => ∃ b, v = .bl b ∧ Q b H1)
def DW (X : Cx) (T : List (Addr × Str)) (E : XK) (e : Expr) (f : EF) : Prop := PW X e (fun σ H Q => tD (CvX X T) E f σ H fun v H1 => ∃ b, v = .bl b ∧ Q b H1)
theorem pe_imp {X : Cx} {e : Expr} {t t' : TE} (h : PE X e t) (i : ∀ σ H Q, t' σ H Q → t σ H Q) : PE X e t' := ⟨fun pins s σ H Q I q => h.run pins s σ H Q I (i _ _ _ q)⟩
/-- the same, told of the very state -/
theorem pe_impI {X : Cx} {e : Expr} {t t' : TE} (h : PE X e t) (i : ∀ pins s σ H Q, Inv X pins σ H s → t' σ H Q → t σ H Q) : PE X e t' := ⟨fun pins s σ H Q I q => h.run pins s σ H Q I (i _ _ _ _ _ I q)⟩
theorem pt_imp {X : Cx} {e : Expr} {t t' : TT} (h : PT X e t) (i : ∀ σ H Q, t' σ H Q → t σ H Q) : PT X e t' := ⟨fun pins s σ H Q I q => h.run pins s σ H Q I (i _ _ _ q)⟩
theorem pw_imp {X : Cx} {e : Expr} {t t' : TT} (h : PW X e t) (i : ∀ σ H Q, t' σ H Q → t σ H Q) : PW X e t' := ⟨fun wh pins s σ H Q I q => h.run wh pins s σ H Q I (i _ _ _ q)⟩
theorem ps_imp {X : Cx} {e : Stmt} {t t' : TS} (h : PS X e t) (i : ∀ D σ H, t' D σ H → t D σ H) : PS X e t' := ⟨fun pins s σ H D I q => h.run pins s σ H D I (i _ _ _ q)⟩
theorem pss_imp {X : Cx} {e : List Stmt} {t t' : TS} (h : PSs X e t) (i : ∀ D σ H, t' D σ H → t D σ H) : PSs X e t' := ⟨fun pins s σ H D I q => h.run pins s σ H D I (i _ _ _ q)⟩

section
variable {C : Cv} {E : XK} {Q Q' : VK} {H : Hp} {α : Al} {μ : Sto} {σ : L2.St} {ρ : Mi.Env} {f : EF}
/-- the end of a value -/
theorem PQ.ok {v : V} {w : W} (S : Stor C H α μ) (r : RpW C H α μ v w) (h : PQ C E Q H α μ (.ok w μ)) : Q v H := h v H α (.refl _ _ _) S r
theorem tD_mono (h : tD C E f σ H Q) (hQ : ∀ v H', Q v H' → Q' v H') : tD C E f σ H Q' := by
  obtain ⟨ρ, α, μ, S, sl, q⟩ := h
  refine ⟨ρ, α, μ, S, sl, ?_⟩
  cases e : f ρ μ with
  | ok w μ1 => rw [e] at q; exact fun v H' α' st S' r => hQ _ _ (q v H' α' st S' r)
  | er x μ1 => rw [e] at q; exact q
  | no => rw [e] at q; exact q
/-- an end by a value that is known from an option -/
theorem PQ.ofO {o : Option W} (h : PQ C E Q H α μ (ofO o μ)) : ∃ w, o = some w ∧ PQ C E Q H α μ (.ok w μ) := by
  cases o with
  | none => exact (show False from h).elim
  | some w => exact ⟨w, rfl, h⟩
theorem PQ.test {r : R W} {k : Bool → Sto → R W} (h : PQ C E Q H α μ (r.test k)) : PQ C E Q H α μ (r.bind fun w μ1 => match isB w with | some b => k b μ1 | none => .no) := h
end
/-- tests: behind a bool -/
theorem tD_test {C : Cv} {E : XK} {Q Q' : VK} {H : Hp} {α : Al} {μ : Sto} {σ : L2.St} {ρ : Mi.Env} {f : EF} {k : Bool → Sto → R W} (S : Stor C H α μ) (sl : Sl C H α μ σ ρ) (h : PQ C E Q H α μ ((f ρ μ).test k))
    (cont : ∀ b H1 α1 μ1, Step H α μ H1 α1 μ1 → Stor C H1 α1 μ1 → Sl C H1 α1 μ1 σ ρ → PQ C E Q H1 α1 μ1 (k b μ1) → Q' (.bl b) H1) : tD C E f σ H Q' := by
  refine tD_bind S sl h fun v w H1 α1 μ1 st S1 sl1 r q => ?_
  cases w with
  | d d =>
    cases d with
    | bool b => cases r; exact cont b H1 α1 μ1 st S1 sl1 q
    | none => exact (show False from q).elim
    | int i => exact (show False from q).elim
    | str i => exact (show False from q).elim
    | list i => exact (show False from q).elim
    | tuple i => exact (show False from q).elim
    | dict i => exact (show False from q).elim
  | m k => exact (show False from q).elim
  | f k => exact (show False from q).elim
  | x k => exact (show False from q).elim

section
variable {X : Cx} {T : List (Addr × Str)} {E : XK} {j : Nat} {pos : Pos} {a b c : Expr} {f g h : EF}
/-! ### names, constants -/
theorem de_var (i : Nat) {x : Str} (hN : X.N[i]? = some x := by rfl) (hv : Vis X.env.scope x := by first | exact Or.inl rfl | exact Or.inr (Or.inl rfl) | exact Or.inr (Or.inr rfl)) (hd : (x == ("__debug__" : Str)) = false := by decide)
    (hcd : (x == ("__classdict__" : Str)) = false := by decide) : DE X T E (.Name x pos) (eVar i) := by
  refine pe_imp (pe_var hN hv hd hcd) fun σ H Q ⟨ρ, α, μ, S, sl, q⟩ => ?_
  unfold eVar at q
  split at q
  · rename_i w e
    obtain ⟨v, h1, h2⟩ := sl.at_ i w e
    exact ⟨v, h1, PQ.ok S h2 q⟩
  · exact (show False from q).elim
theorem de_c {e : Expr} {v : V} {d : D} (h : PE X e (tC v)) (r : ∀ K H M, Rp K H M v d) : DE X T E e (eC d) :=
  pe_imp h fun σ H Q ⟨ρ, α, μ, S, sl, q⟩ => PQ.ok (w := .d d) S (r _ _ _) q
theorem de_int {i : Int} {j' : Nat} : DE X T E (.Constant (.int i) j' pos) (eInt i) := de_c pe_int fun _ _ _ => .int i
theorem de_str {x : Str} {j' : Nat} : DE X T E (.Constant (.str x) j' pos) (eStr x) := de_c pe_str fun _ _ _ => .str x
theorem de_bl {x : Bool} {j' : Nat} : DE X T E (.Constant (.bool x) j' pos) (eBl x) := de_c pe_bl fun _ _ _ => .bl x
theorem de_non {j' : Nat} : DE X T E (.Constant .none j' pos) eNon := de_c pe_non fun _ _ _ => .non
/-- a module's int -/
theorem de_gint {x : Str} {i : Int} (hm : ∃ t, X.mg x = some (.int i t)) (hg : Gl X x := by rfl) (hd : (x == ("__debug__" : Str)) = false := by decide) : DE X T E (.Name x pos) (eInt i) := by
  obtain ⟨t, hm⟩ := hm
  exact de_c (pe_glob hg hm (v := .int i) ⟨t, rfl⟩ hd) fun _ _ _ => .int i
/-- a def or a class of the text, as a value -/
theorem de_fn {x : Str} {A : Addr} (hm : X.mg x = some (.ref A)) (hg : Gl X x := by rfl) (hd : (x == ("__debug__" : Str)) = false := by decide) : DE X T E (.Name x pos) (eFn x) :=
  pe_imp (pe_glob hg hm (v := .ref A) rfl hd) fun σ H Q ⟨ρ, α, μ, S, sl, q⟩ => PQ.ok (w := .f x) S ⟨A, hm, rfl⟩ q

/-! ### operators -/
/-- a rule of the machine serves an operator of the mirror -/
def OpS (C : Cv) (op : D → D → Option D) (r : R2) : Prop := ∀ H α μ x y a b z Q, Stor C H α μ → RpT C.K H (Own α μ) x a → RpT C.K H (Own α μ) y b → op a b = some z → (∀ v H', Same H H' → Rp C.K H' (Own α μ) v z → Q v H') → r x y H Q
def UnS (C : Cv) (op : D → Option D) (r : V → Hp → VK → Prop) : Prop := ∀ H α μ x a z Q, Stor C H α μ → RpT C.K H (Own α μ) x a → op a = some z → (∀ v H', Same H H' → Rp C.K H' (Own α μ) v z → Q v H') → r x H Q
theorem OpS.fin {C : Cv} {op : D → D → Option D} {r : R2} (hs : OpS C op r) {H : Hp} {α : Al} {μ : Sto} {x y : V} {w u : W} {Q : VK} (S : Stor C H α μ) (rx : RpW C H α μ x w) (ry : RpW C H α μ y u)
    (q : PQ C E Q H α μ (ofO ((view μ w).bind fun a => (view μ u).bind fun b => (op a b).map W.d) μ)) : r x y H Q := by
  obtain ⟨z, e, q⟩ := PQ.ofO q
  cases e1 : view μ w with
  | none => rw [e1] at e; cases e
  | some a =>
    rw [e1] at e
    cases e2 : view μ u with
    | none => simp [e2] at e
    | some b =>
      simp only [e2, Option.bind_some] at e
      cases e3 : op a b with
      | none => rw [e3] at e; cases e
      | some d =>
        rw [e3] at e
        cases e
        exact hs H α μ x y a b d Q S (rx.view S e1) (ry.view S e2) e3 fun v H' sm rv => q v H' α (Same.step S sm) (S.same sm) rv
theorem UnS.fin {C : Cv} {op : D → Option D} {r : V → Hp → VK → Prop} (hs : UnS C op r) {H : Hp} {α : Al} {μ : Sto} {x : V} {w : W} {Q : VK} (S : Stor C H α μ) (rx : RpW C H α μ x w)
    (q : PQ C E Q H α μ (ofO ((view μ w).bind fun a => (op a).map W.d) μ)) : r x H Q := by
  obtain ⟨z, e, q⟩ := PQ.ofO q
  cases e1 : view μ w with
  | none => rw [e1] at e; cases e
  | some a =>
    simp only [e1, Option.bind_some] at e
    cases e3 : op a with
    | none => rw [e3] at e; cases e
    | some d =>
      rw [e3] at e
      cases e
      exact hs H α μ x a d Q S (rx.view S e1) e3 fun v H' sm rv => q v H' α (Same.step S sm) (S.same sm) rv
theorem op_rd {C : Cv} {op : D → D → Option D} {r : R2} (hs : OpS C op r) {σ : L2.St} {H : Hp} {Q : VK} (q : tD C E (eOp op f g) σ H Q) : tOp r (tD C E f) (tD C E g) σ H Q := by
  obtain ⟨ρ, α, μ, S, sl, q⟩ := q
  refine tD_bind S sl q fun v w H1 α1 μ1 st1 S1 sl1 r1 q1 => ?_
  exact tD_bind S1 sl1 q1 fun u w2 H2 α2 μ2 st2 S2 sl2 r2 q2 => hs.fin S2 (r1.step st2) r2 q2
theorem de_op {o : Operator} {op : D → D → Option D} {r : R2} (ho : OpR X (binaryOp o) r) (hs : OpS (CvX X T) op r) (ha : DE X T E a f) (hb : DE X T E b g) : DE X T E (.BinOp a o b pos) (eOp op f g) :=
  pe_imp (pe_op ho ha hb) fun σ H Q q => op_rd hs q
theorem de_un {o : UnaryOp} {op : D → Option D} {r : V → Hp → VK → Prop} (ho : UnR X (unaryOp o) r) (hs : UnS (CvX X T) op r) (ha : DE X T E a f) : DE X T E (.UnaryOp o a pos) (eUn op f) :=
  pe_imp (pe_un ho ha) fun σ H Q ⟨ρ, α, μ, S, sl, q⟩ => tD_bind S sl q fun v w H1 α1 μ1 st1 S1 sl1 r1 q1 => hs.fin S1 r1 q1
theorem de_cmp {o : CmpOp} {op : D → D → Option D} {r : R2} (ho : OpR X (compareOp o) r) (hs : OpS (CvX X T) op r) (ha : DE X T E a f) (hb : DE X T E b g) (hm : behindInMarks o b = false := by first | exact nomark _ (by decide) (by decide) | with_unfolding_all rfl) : DE X T E (.Compare a [o] [b] pos) (eOp op f g) :=
  pe_imp (pe_cmpR ho ha hb hm) fun σ H Q q => op_rd hs q
theorem dt_cmp {o : CmpOp} {op : D → D → Option D} {r : R2} (ho : OpR X (compareOp o) r) (hs : OpS (CvX X T) op r) (ha : DE X T E a f) (hb : DE X T E b g) (hm : behindInMarks o b = false := by first | exact nomark _ (by decide) (by decide) | with_unfolding_all rfl) : DT X T E (.Compare a [o] [b] pos) (eOp op f g) :=
  pt_imp (pt_cmpR ho ha hb hm) fun σ H Q q => op_rd hs q
theorem chain_rd {C : Cv} {op op' : D → D → Option D} {r r' : R2} (hs : OpS C op r) (hs' : OpS C op' r') {σ : L2.St} {H : Hp} {Q : VK} (q : tD C E (eChain op op' f g h) σ H Q) : tChain r r' (tD C E f) (tD C E g) (tD C E h) σ H Q := by
  obtain ⟨ρ, α, μ, S, sl, q⟩ := q
  refine tD_bind S sl q fun v w H1 α1 μ1 st1 S1 sl1 r1 q1 => ?_
  refine tD_bind S1 sl1 q1 fun u w2 H2 α2 μ2 st2 S2 sl2 r2 q2 => ?_
  have rv := r1.step st2
  cases e1 : view μ2 w with
  | none => simp [e1, ofO, R.test] at q2; exact (show False from q2).elim
  | some x =>
    cases e2 : view μ2 w2 with
    | none => simp [e1, e2, ofO, R.test] at q2; exact (show False from q2).elim
    | some y =>
      cases e3 : op x y with
      | none => simp [e1, e2, e3, ofO, R.test] at q2; exact (show False from q2).elim
      | some z =>
        simp only [e1, e2, e3, Option.bind_some, Option.map_some, ofO_some] at q2
        refine hs H2 α2 μ2 v u x y z _ S2 (rv.view S2 e1) (r2.view S2 e2) e3 fun v3 H3 sm rz => ?_
        cases z with
        | bool k =>
          cases rz
          refine ⟨k, rfl, ?_⟩
          have S3 := S2.same sm
          have st3 : Step H2 α2 μ2 H3 α2 μ2 := Same.step S2 sm
          have q3 := PQ.step q2 st3
          have sl3 := sl2.step st3
          cases k with
          | true =>
            rw [if_pos rfl]
            exact tD_bind S3 sl3 q3 fun v4 w4 H4 α4 μ4 st4 S4 sl4 r4 q4 => hs'.fin S4 ((r2.step st3).step st4) r4 q4
          | false =>
            rw [if_neg Bool.false_ne_true]
            exact PQ.ok (w := .d (.bool false)) S3 (.bl false) q3
        | none => exact (show False from q2).elim
        | int i => exact (show False from q2).elim
        | str i => exact (show False from q2).elim
        | list i => exact (show False from q2).elim
        | tuple i => exact (show False from q2).elim
        | dict i => exact (show False from q2).elim
theorem de_chain {o o' : CmpOp} {op op' : D → D → Option D} {r r' : R2} (ho : OpR X (compareOp o) r) (hs : OpS (CvX X T) op r) (ho' : OpR X (compareOp o') r') (hs' : OpS (CvX X T) op' r') (ha : DE X T E a f) (hb : DE X T E b g) (hc : DE X T E c h)
    (hm : lastMarks [o, o'] [b, c] = false := by with_unfolding_all rfl) : DE X T E (.Compare a [o, o'] [b, c] pos) (eChain op op' f g h) :=
  pe_imp (pe_chain ho ho' ha hb hc hm) fun σ H Q q => chain_rd hs hs' q

theorem chain_test {C : Cv} {op op' : D → D → Option D} {r r' : R2} (hs : OpS C op r) (hs' : OpS C op' r') {σ : L2.St} {H : Hp} {Q : Bool → Hp → Prop} (q : tD C E (eChain op op' f g h) σ H fun v H1 => ∃ b, v = .bl b ∧ Q b H1) : tTest (tChain r r' (tD C E f) (tD C E g) (tD C E h)) σ H Q := chain_rd hs hs' q
theorem dt_chain {o o' : CmpOp} {op op' : D → D → Option D} {r r' : R2} (ho : OpR X (compareOp o) r) (hs : OpS (CvX X T) op r) (ho' : OpR X (compareOp o') r') (hs' : OpS (CvX X T) op' r') (ha : DE X T E a f) (hb : DE X T E b g) (hc : DE X T E c h)
    (hm : lastMarks [o, o'] [b, c] = false := by with_unfolding_all rfl) : DT X T E (.Compare a [o, o'] [b, c] pos) (eChain op op' f g h) :=
  pt_imp (pt_chain ho ho' ha hb hc hm) fun σ H Q q => chain_test hs hs' q

/-! ### and, or, not, if -/
theorem dt_val (ha : DE X T E a f) (he : ∀ whole, isTrue a X.env whole = (do let v ← whole; standAt a.pos; holding [v] (truthy v)) := by intro _; rfl) : DT X T E a f :=
  pt_imp (pt_val ha he) fun σ H Q q => tD_mono q fun v H' z => z
theorem dt_w (h : DW X T E a f) : DT X T E a f := PW.pt h
theorem de_one {o : BoolOp} (ha : DE X T E a f) : DE X T E (.BoolOp o [a] pos) f := pe_one ha
theorem dw_and1 (ha : DT X T E a f) : DW X T E (.BoolOp .And [a] pos) f := pw_and1 ha
theorem dw_or1 (ha : DT X T E a f) : DW X T E (.BoolOp .Or [a] pos) f := pw_or1 ha
variable {rest : List Expr}
theorem PQ.bl {C : Cv} {Q : VK} {H : Hp} {α : Al} {μ : Sto} {b : Bool} (S : Stor C H α μ) (h : PQ C E Q H α μ (.ok (.d (.bool b)) μ)) : Q (.bl b) H := PQ.ok (w := .d (.bool b)) S (.bl b) h
theorem de_and (ha : DE X T E a f) (hb : DE X T E (.BoolOp .And (b :: rest) pos) g) : DE X T E (.BoolOp .And (a :: b :: rest) pos) (eAnd f g) :=
  pe_imp (pe_and ha hb) fun σ H Q ⟨ρ, α, μ, S, sl, q⟩ => tD_test S sl q fun k H1 α1 μ1 st S1 sl1 q1 => ⟨k, rfl, by
    cases k with
    | true => rw [if_pos rfl]; exact ⟨ρ, α1, μ1, S1, sl1, q1⟩
    | false => rw [if_neg Bool.false_ne_true]; exact PQ.bl S1 q1⟩
theorem de_or (ha : DE X T E a f) (hb : DE X T E (.BoolOp .Or (b :: rest) pos) g) : DE X T E (.BoolOp .Or (a :: b :: rest) pos) (eOr f g) :=
  pe_imp (pe_or ha hb) fun σ H Q ⟨ρ, α, μ, S, sl, q⟩ => tD_test S sl q fun k H1 α1 μ1 st S1 sl1 q1 => ⟨k, rfl, by
    cases k with
    | true => rw [if_pos rfl]; exact PQ.bl S1 q1
    | false => rw [if_neg Bool.false_ne_true]; exact ⟨ρ, α1, μ1, S1, sl1, q1⟩⟩
theorem dw_and (ha : DT X T E a f) (hb : DW X T E (.BoolOp .And (b :: rest) pos) g) : DW X T E (.BoolOp .And (a :: b :: rest) pos) (eAnd f g) :=
  pw_imp (pw_and ha hb) fun σ H Q ⟨ρ, α, μ, S, sl, q⟩ => tD_test S sl q fun k H1 α1 μ1 st S1 sl1 q1 => ⟨k, rfl, by
    cases k with
    | true => rw [if_pos rfl]; exact ⟨ρ, α1, μ1, S1, sl1, q1⟩
    | false =>
      rw [if_neg Bool.false_ne_true]
      obtain ⟨b, e, q⟩ := PQ.bl S1 q1
      cases e
      exact q⟩
theorem dw_or (ha : DT X T E a f) (hb : DW X T E (.BoolOp .Or (b :: rest) pos) g) : DW X T E (.BoolOp .Or (a :: b :: rest) pos) (eOr f g) :=
  pw_imp (pw_or ha hb) fun σ H Q ⟨ρ, α, μ, S, sl, q⟩ => tD_test S sl q fun k H1 α1 μ1 st S1 sl1 q1 => ⟨k, rfl, by
    cases k with
    | true =>
      rw [if_pos rfl]
      obtain ⟨b, e, q⟩ := PQ.bl S1 q1
      cases e
      exact q
    | false => rw [if_neg Bool.false_ne_true]; exact ⟨ρ, α1, μ1, S1, sl1, q1⟩⟩
theorem de_not (ha : DE X T E a f) : DE X T E (.UnaryOp .Not a pos) (eNot f) :=
  pe_imp (pe_not ha) fun σ H Q ⟨ρ, α, μ, S, sl, q⟩ => tD_test S sl q fun k H1 α1 μ1 st S1 sl1 q1 => ⟨k, rfl, PQ.bl S1 q1⟩
theorem dt_not (ha : DT X T E a f) : DT X T E (.UnaryOp .Not a pos) (eNot f) :=
  pt_imp (pt_not ha) fun σ H Q ⟨ρ, α, μ, S, sl, q⟩ => tD_test S sl q fun k H1 α1 μ1 st S1 sl1 q1 => ⟨k, rfl, by
    obtain ⟨b, e, q⟩ := PQ.bl S1 q1
    cases e
    exact q⟩
theorem de_if (hc : DT X T E c f) (ha : DE X T E a g) (hb : DE X T E b h) : DE X T E (.IfExp c a b pos) (eIf f g h) :=
  pe_imp (pe_ifExp hc ha hb) fun σ H Q ⟨ρ, α, μ, S, sl, q⟩ => tD_test S sl q fun k H1 α1 μ1 st S1 sl1 q1 => ⟨k, rfl, by
    cases k with
    | true => rw [if_pos rfl] at q1 ⊢; exact ⟨ρ, α1, μ1, S1, sl1, q1⟩
    | false => rw [if_neg Bool.false_ne_true] at q1 ⊢; exact ⟨ρ, α1, μ1, S1, sl1, q1⟩⟩
theorem rp_isNon {C : Cv} {H : Hp} {α : Al} {μ : Sto} {v : V} {w : W} (r : RpW C H α μ v w) : isNonW w = decide (v = .non) := by
  cases w with
  | d d => cases r <;> rfl
  | m k => obtain ⟨a, _, rfl⟩ := r; rfl
  | f k => obtain ⟨a, _, rfl⟩ := r; rfl
  | x k => obtain rfl := r; rfl
theorem de_isN {j' : Nat} {p' : Pos} (ha : DE X T E a f) : DE X T E (.Compare a [.Is] [.Constant .none j' p'] pos) (eIsN f) :=
  pe_imp (pe_cmp (pc_isN ha)) fun σ H Q ⟨ρ, α, μ, S, sl, q⟩ => tD_bind S sl q fun v w H1 α1 μ1 st S1 sl1 r q1 => by
    have z := PQ.bl S1 q1
    rw [rp_isNon r] at z
    exact z
theorem de_notN {j' : Nat} {p' : Pos} (ha : DE X T E a f) : DE X T E (.Compare a [.IsNot] [.Constant .none j' p'] pos) (eNotN f) :=
  pe_imp (pe_cmp (pc_notN ha)) fun σ H Q ⟨ρ, α, μ, S, sl, q⟩ => tD_bind S sl q fun v w H1 α1 μ1 st S1 sl1 r q1 => by
    have z := PQ.bl S1 q1
    rw [rp_isNon r] at z
    exact z
theorem dt_isN {j' : Nat} {p' : Pos} (ha : DE X T E a f) : DT X T E (.Compare a [.Is] [.Constant .none j' p'] pos) (eIsN f) :=
  pt_imp (pt_cmp (pc_isN ha)) fun σ H Q ⟨ρ, α, μ, S, sl, q⟩ => tD_bind S sl q fun v w H1 α1 μ1 st S1 sl1 r q1 => by
    have z := PQ.bl S1 q1
    rw [rp_isNon r] at z
    exact z
theorem dt_notN {j' : Nat} {p' : Pos} (ha : DE X T E a f) : DT X T E (.Compare a [.IsNot] [.Constant .none j' p'] pos) (eNotN f) :=
  pt_imp (pt_cmp (pc_notN ha)) fun σ H Q ⟨ρ, α, μ, S, sl, q⟩ => tD_bind S sl q fun v w H1 α1 μ1 st S1 sl1 r q1 => by
    have z := PQ.bl S1 q1
    rw [rp_isNon r] at z
    exact z
end
end L3

set_option Elab.async false
set_option linter.all false
set_option maxRecDepth 100000
/-! The operators. -/
namespace L3
open PySem PySem.Spec PyProof.Rows L2 Mi

section
variable {C : Cv} {H : Hp} {α : Al} {μ : Sto} {M : Addr → Prop} {K : PySem.W.Frag}
theorem lim_line {n : Nat} (h : n ≤ LIM) : n ≤ sizeLine := Nat.le_trans h (by decide)
/-- a new list, a new tuple -/
theorem rp_newL {p : Addr} {xs : List V} {ds : List D} (S : Stor C H α μ) (n : H p = none) (r : RpAll C.K H (Own α μ) xs ds) : Same H (upd H p (.lst xs)) ∧ Rp C.K (upd H p (.lst xs)) (Own α μ) (.ref p) (.list ds) :=
  ⟨same_upd n, .lst (.inl upd_same) (S.own_ne n) (r.ext (Same.ext (same_upd n) _))⟩
theorem rp_newT {p : Addr} {xs : List V} {ds : List D} (n : H p = none) (r : RpAll K H M xs ds) : Same H (upd H p (.tup xs)) ∧ Rp K (upd H p (.tup xs)) M (.ref p) (.tuple ds) :=
  ⟨same_upd n, .tup (.inl (.inl upd_same)) (r.ext (Same.ext (same_upd n) _))⟩
end

section
variable {X : Cx} {T : List (Addr × Str)} {C : Cv}
/-! ### + -/
def rCatR : R2 := fun x y H Q => ∃ l b xs zs, x = .ref l ∧ y = .ref b ∧ Rd H l (.lst xs) ∧ Rd H b (.lst zs) ∧ xs.length + zs.length ≤ sizeLine ∧ ∀ p, H p = none → Q (.ref p) (upd H p (.lst (xs ++ zs)))
theorem op_catR : OpR X (binaryOp .Add) rCatR := by
  intro pins s σ H x y v u Q I rx ry h
  obtain ⟨l, b, xs, zs, rfl, rfl, hH, hB, hz, q⟩ := h
  cases rx
  cases ry
  obtain ⟨z, its, n, r, e⟩ := hH.ok I.hok
  obtain ⟨z2, its2, n2, r2, e2⟩ := hB.ok I.hok
  have hl := r.length
  have hl2 := r2.length
  refine PySem.P.add_list e e2 ?_ (by rw [List.size_toArray, List.size_toArray]; omega)
  have ea : its.toArray ++ its2.toArray = (its ++ its2).toArray := by simp
  rw [ea]
  exact ⟨.ref _, _, I.lnew (t' := s.toks) (r.append r2) (by rw [List.length_append]; omega), rfl, q _ I.fresh⟩
def rBI (g : Int → Int → Int) : R2 := fun x y H Q => ∃ b i, x = .bl b ∧ y = .int i ∧ Q (.int (g (bI b) i)) H
theorem op_addBI : OpR X (binaryOp .Add) (rBI (· + ·)) := by
  intro pins s σ H x y v u Q I rx ry h
  obtain ⟨b, i, rfl, rfl, q⟩ := h
  cases rx
  obtain ⟨t, rfl⟩ := ry
  exact PySem.IntBool.add_bool_int ⟨.int (bI b + i), H, I.tok _, ⟨_, rfl⟩, q⟩
theorem op_subBI : OpR X (binaryOp .Sub) (rBI (· - ·)) := by
  intro pins s σ H x y v u Q I rx ry h
  obtain ⟨b, i, rfl, rfl, q⟩ := h
  cases rx
  obtain ⟨t, rfl⟩ := ry
  exact PySem.IntBool.sub_bool_int ⟨.int (bI b - i), H, I.tok _, ⟨_, rfl⟩, q⟩
def rSubA : R2 := fun x y H Q => (rI0 (fun i j => V.int (i - j)) x y H Q) ∨ rBI (· - ·) x y H Q
theorem op_subA : OpR X (binaryOp .Sub) rSubA := op_sub.or op_subBI
theorem gives_neg_bool (a : Bool) : Gives (Builtin.«int.__neg__» ⟨[.bool a], []⟩) (.int (-(bI a))) := .of_eq rfl
theorem un_negB : UnR X (unaryOp .USub) (fun x H Q => ∃ b, x = .bl b ∧ Q (.int (-(bI b))) H) := by
  intro pins s σ H x v Q I rx h
  obtain ⟨b, rfl, q⟩ := h
  cases rx
  exact unaryOp_gives (op := .USub) rfl rfl F.slot_bool_neg F.entry_int_neg (F.args_int_neg_1 _) (gives_neg_bool b) ⟨.int _, H, I.tok _, ⟨_, rfl⟩, q⟩
def rNegA : V → Hp → VK → Prop := fun x H Q => (rU (fun i => .int (-i)) x H Q) ∨ ∃ b, x = .bl b ∧ Q (.int (-(bI b))) H
theorem un_negA : UnR X (unaryOp .USub) rNegA := fun pins s σ H x v Q I rx h => h.elim (un_neg pins s σ H x v Q I rx) (un_negB pins s σ H x v Q I rx)
def rAddA (K : PySem.W.Frag) : R2 := fun x y H Q => (rI0 (fun i j => V.int (i + j)) x y H Q) ∨ ((∃ i j, x = .str i ∧ y = .str j ∧ i.length + j.length ≤ sizeLine ∧ Q (.str (i ++ j)) H) ∨ (rCatR x y H Q ∨ (rCatA K x y H Q ∨ rBI (· + ·) x y H Q)))
theorem op_addA : OpR X (binaryOp .Add) (rAddA X.K) := op_add.or (op_add_str.or (op_catR.or (op_catA.or op_addBI)))
theorem os_add : OpS C dAdd (rAddA C.K) := by
  intro H α μ x y a b z Q S ra rb e q
  unfold dAdd at e
  split at e
  · cases e
    exact .inl ⟨_, _, ra.int, rb.int, q _ H (.refl H) (.int _)⟩
  · cases e
    exact .inr (.inr (.inr (.inr ⟨_, _, ra.bl, rb.int, q _ H (.refl H) (.int _)⟩)))
  · split at e
    · rename_i hl
      cases e
      exact .inr (.inl ⟨_, _, ra.str, rb.str, lim_line hl, q _ H (.refl H) (.str _)⟩)
    · cases e
  · split at e
    · rename_i hl
      cases e
      obtain ⟨p1, xs, rfl, h1, r1⟩ := ra.list
      obtain ⟨p2, ys, rfl, h2, r2⟩ := rb.list
      refine .inr (.inr (.inl ⟨p1, p2, xs, ys, rfl, rfl, h1, h2, by rw [r1.length, r2.length]; exact lim_line hl, fun p n => ?_⟩))
      obtain ⟨sm, rp⟩ := rp_newL S n (r1.append r2)
      exact q _ _ sm rp
    · cases e
  · split at e
    · rename_i hl
      cases e
      obtain ⟨p1, xs, rfl, h1, r1⟩ := ra.tuple
      obtain ⟨p2, ys, rfl, h2, r2⟩ := rb.tuple
      refine .inr (.inr (.inr (.inl ⟨p1, p2, xs, ys, rfl, rfl, h1, h2, by rw [r1.length, r2.length]; exact lim_line hl, fun e => ?_, fun _ e => ?_, fun _ _ p n => ?_⟩)))
      · subst e
        have : _ = ([] : List D) := List.eq_nil_of_length_eq_zero r1.length.symm
        subst this
        exact q _ H (.refl H) (.tup h2 r2)
      · subst e
        have : _ = ([] : List D) := List.eq_nil_of_length_eq_zero r2.length.symm
        subst this
        rw [List.append_nil] at q
        exact q _ H (.refl H) (.tup h1 r1)
      · obtain ⟨sm, rp⟩ := rp_newT n (r1.append r2)
        exact q _ _ sm rp
    · cases e
  · cases e
theorem os_sub : OpS C dSub rSubA := by
  intro H α μ x y a b z Q S ra rb e q
  unfold dSub at e
  split at e
  · cases e
    exact .inl ⟨_, _, ra.int, rb.int, q _ H (.refl H) (.int _)⟩
  · cases e
    exact .inr ⟨_, _, ra.bl, rb.int, q _ H (.refl H) (.int _)⟩
  · cases e
/-! ### * -/
def rRepR : R2 := fun x y H Q => ∃ l k xs, x = .ref l ∧ y = .int k ∧ Rd H l (.lst xs) ∧ -(2 ^ 63) ≤ k ∧ k < 2 ^ 63 ∧ xs.length * k.toNat ≤ sizeLine ∧
  ∀ p, H p = none → Q (.ref p) (upd H p (.lst (List.replicate k.toNat xs).flatten))
theorem abs_lt {i : Int} (h : i.natAbs < 2 ^ 64) : -(2 ^ 64) < i ∧ i < 2 ^ 64 := by omega
/-- ints alone -/
def dMulI : D → D → Option D
  | .int a, .int b => if mulOk a b then some (.int (a * b)) else none
  | _, _ => none
theorem os_mulI : OpS C dMulI (fun x y H Q => (rI CMul (fun i j => V.int (i * j)) x y H Q) ∨ (rI CMulW (fun i j => V.int (i * j)) x y H Q)) := by
  intro H α μ x y a b z Q S ra rb e q
  unfold dMulI at e
  split at e
  · split at e
    · rename_i hl
      cases e
      have q1 := q _ H (.refl H) (.int _)
      rcases hl with (h | h) | ⟨h1, h2⟩
      · exact .inl ⟨_, _, ra.int, rb.int, .inl (abs_lt h), q1⟩
      · exact .inl ⟨_, _, ra.int, rb.int, .inr (abs_lt h), q1⟩
      · exact .inr ⟨_, _, ra.int, rb.int, wide_mul h1 h2 (by decide) (by decide) (by decide), q1⟩
    · cases e
  · cases e
theorem op_mulI : OpR X (binaryOp .Mult) (fun x y H Q => (rI CMul (fun i j => V.int (i * j)) x y H Q) ∨ (rI CMulW (fun i j => V.int (i * j)) x y H Q)) := op_mul.or op_mulW
theorem RpAll.rep {K : PySem.W.Frag} {H : Hp} {M : Addr → Prop} {xs : List V} {ds : List D} (r : RpAll K H M xs ds) : ∀ n, RpAll K H M (List.replicate n xs).flatten (List.replicate n ds).flatten
  | 0 => .nil
  | n + 1 => by rw [List.replicate_succ, List.replicate_succ, List.flatten_cons, List.flatten_cons]; exact r.append (RpAll.rep r n)
theorem fold_rep (us : List Value) (m : Nat) : List.foldl (fun p q => p ++ q) #[] (List.replicate m us.toArray) = (List.replicate m us).flatten.toArray := by
  have h := foldl_rep us m []
  rw [List.nil_append] at h
  exact h
theorem op_repR : OpR X (binaryOp .Mult) rRepR := by
  intro pins s σ H x y v u Q I rx ry hh
  obtain ⟨p, m, vs, rfl, rfl, hR, lo, hi, hsz, q⟩ := hh
  cases rx
  obtain ⟨tk, rfl⟩ := ry
  obtain ⟨zz, us, nn, rv, ob⟩ := hR.ok I.hok
  have ul := rv.length
  have c1 : us.toArray.size * m.toNat ≤ sizeLine := by
    rw [List.size_toArray, ← ul]
    exact hsz
  have c2 : ¬ us.toArray.size * m.toNat > (2 ^ 63 - 1) / 8 := by
    have b : (sizeLine : Nat) ≤ (2 ^ 63 - 1) / 8 := by decide
    omega
  have c3 : ¬ (!Builtin.List.listFitsIndex m) = true := by
    rw [fitsIndex_both lo hi]
    decide
  have c4 : ¬ Builtin.List.listTooLong (us.toArray.size * m.toNat) = true := by
    rw [notLongL c1]
    decide
  have all : List.foldl (fun p q => p ++ q) #[] (List.replicate (if us.toArray.isEmpty = true then 0 else m.toNat) us.toArray) = (List.replicate m.toNat us).flatten.toArray := by
    rw [fold_rep]
    cases us with
    | nil => simp
    | cons a r' => rw [if_neg (by simp)]
  have low := AutoListH.list___mul___list_int_3 p us.toArray nn m tk c3 c2 c4
  have mid := int___rmul___int_list m tk p us.toArray nn
  refine wpAny_binaryOp_repeat_ref (T := "list") (U := "int")
    (by decide) ⟨_, ob, rfl⟩ (fun z => typeIs_int z m tk) noFill_list_mul F.fills_int_mul
    F.slot_int_rmul repeat_list F.slot_int_index.lookup ?_
  refine call_meets F.slot_int_rmul (typeIs_int s m tk)
    F.entry_int_rmul (F.args_int_rmul_2 _ _) mid ⟨ob, rfl, ⟨_, ob, rfl⟩, ?_⟩
  refine call_meets F.slot_list_mul ⟨_, ob, rfl⟩ F.entry_list_mul
    (F.args_list_mul_2 _ _) low ⟨ob, ?_⟩
  rw [all]
  have fits : ((List.replicate m.toNat vs).flatten).length ≤ sizeLine := by
    rw [PyProof.Rows.lm_len_rep_flat, Nat.mul_comm]
    exact hsz
  exact ⟨.ref _, _, I.lnew (t' := s.toks) (rv.rep m.toNat) fits, rfl, q _ I.fresh⟩
def repS (a : Str) (n : Int) : Str := ⟨(List.replicate n.toNat a.cps).foldl (· ++ ·) #[]⟩
def rRepS : R2 := fun x y H Q => ∃ a n, x = .str a ∧ y = .int n ∧ (2 ≤ n ∧ n ≤ 1000 ∧ 1 ≤ a.length ∧ a.length ≤ 1000) ∧ Q (.str (repS a n)) H
theorem op_repS : OpR X (binaryOp .Mult) rRepS := by
  intro pins s σ H x y v u Q I rx ry h
  obtain ⟨a, n, rfl, rfl, ⟨h1, h2, h3, h4⟩, q⟩ := h
  obtain ⟨t, rfl⟩ := rx
  obtain ⟨t', rfl⟩ := ry
  have hm : a.length * n.toNat ≤ 1000 * 1000 := Nat.mul_le_mul h4 (by omega)
  have hl : Builtin.Str.tooLong (a.length * n.toNat) = false := by
    have : ¬ a.length * n.toNat > 2 ^ 24 := by omega
    simpa [Builtin.Str.tooLong, sizeLine] using this
  have c0 : (n == 1 || a.length == 0) = false := by
    have e1 : (n == 1) = false := beq_eq_false_iff_ne.mpr (by omega)
    have e2 : (a.length == 0) = false := beq_eq_false_iff_ne.mpr (by omega)
    rw [e1, e2]; rfl
  refine PySem.P.mul_str ?_ (fun _ _ => ?_) (fun _ _ => hl) ?_
  · have e1 : ¬ n < -(2 ^ 63 : Int) := by omega
    have e2 : ¬ n ≥ 2 ^ 63 := by omega
    rw [decide_eq_false e1, decide_eq_false e2]; rfl
  · have : (1000 : Int) ≤ (2 ^ 63 - 1) / n := by
      refine (Int.le_ediv_iff_mul_le (by omega)).mpr ?_
      omega
    omega
  · rw [if_neg (by omega), c0]
    exact ⟨fits_reps hl, .str (repS a n), H, I.tok _, ⟨_, rfl⟩, q⟩
def rMulA (K : PySem.W.Frag) : R2 := fun x y H Q => (rI CMul (fun i j => V.int (i * j)) x y H Q) ∨ ((rI CMulW (fun i j => V.int (i * j)) x y H Q) ∨ (rRepR x y H Q ∨ (rRepT K x y H Q ∨ rRepS x y H Q)))
theorem op_mulA : OpR X (binaryOp .Mult) (rMulA X.K) := op_mul.or (op_mulW.or (op_repR.or (op_repT.or op_repS)))
theorem os_mul : OpS C dMul (rMulA C.K) := by
  intro H α μ x y a b z Q S ra rb e q
  unfold dMul at e
  split at e
  · split at e
    · rename_i hl
      cases e
      have q1 := q _ H (.refl H) (.int _)
      rcases hl with (h | h) | ⟨h1, h2⟩
      · exact .inl ⟨_, _, ra.int, rb.int, .inl (abs_lt h), q1⟩
      · exact .inl ⟨_, _, ra.int, rb.int, .inr (abs_lt h), q1⟩
      · exact .inr (.inl ⟨_, _, ra.int, rb.int, wide_mul h1 h2 (by decide) (by decide) (by decide), q1⟩)
    · cases e
  · rename_i l n
    split at e
    · rename_i hl
      obtain ⟨l1, l2, l3⟩ := hl
      cases e
      obtain ⟨p1, xs, rfl, h1, r1⟩ := ra.list
      have hb := rb.int
      subst hb
      have e1 := r1.length
      have hm : xs.length * n.toNat ≤ sizeLine := Nat.le_trans (Nat.mul_le_mul (show xs.length ≤ 1000 by omega) (show n.toNat ≤ 1000 by omega)) (by decide)
      refine .inr (.inr (.inl ⟨p1, n, xs, rfl, rfl, h1, by omega, by omega, hm, fun p np => ?_⟩))
      obtain ⟨sm, rp⟩ := rp_newL S np (r1.rep n.toNat)
      exact q _ _ sm rp
    · cases e
  · rename_i l n
    split at e
    · rename_i hl
      obtain ⟨l1, l2, l3, l4⟩ := hl
      cases e
      obtain ⟨p1, xs, rfl, h1, r1⟩ := ra.tuple
      have hb := rb.int
      subst hb
      have e1 := r1.length
      refine .inr (.inr (.inr (.inl ⟨p1, n, xs, rfl, rfl, h1, fun z => l4 ?_, l1, l2, by omega, fun p np => ?_⟩)))
      · subst z
        exact List.eq_nil_of_length_eq_zero e1.symm
      · obtain ⟨sm, rp⟩ := rp_newT np (r1.rep n.toNat)
        exact q _ _ sm rp
    · cases e
  · split at e
    · rename_i hl
      cases e
      exact .inr (.inr (.inr (.inr ⟨_, _, ra.str, rb.int, hl, q _ H (.refl H) (.str _)⟩)))
    · cases e
  · cases e
theorem log_of {j : Int} (h0 : 0 < j) (h : j < 2 ^ 1000) : CDivW j j := wide_div (b := 1000) h0 (by omega) (by decide) (by decide)
theorem os_div : OpS C dDiv (rI CDivW fun i j => .int (i / j)) := by
  intro H α μ x y a b z Q S ra rb e q
  unfold dDiv at e
  split at e
  · split at e
    · rename_i hl
      cases e
      exact ⟨_, _, ra.int, rb.int, log_of hl.1 hl.2, q _ H (.refl H) (.int _)⟩
    · cases e
  · cases e
theorem os_mod : OpS C dMod (rI (fun _ j => 0 < j) fun i j => .int (i % j)) := by
  intro H α μ x y a b z Q S ra rb e q
  unfold dMod at e
  split at e
  · split at e
    · rename_i hl
      cases e
      exact ⟨_, _, ra.int, rb.int, hl, q _ H (.refl H) (.int _)⟩
    · cases e
  · cases e
theorem os_pow : OpS C dPow (rI CPow fun i j => .int (i ^ j.toNat)) := by
  intro H α μ x y a b z Q S ra rb e q
  unfold dPow at e
  split at e
  · split at e
    · rename_i hl
      cases e
      exact ⟨_, _, ra.int, rb.int, ⟨hl.1, Int.le_trans hl.2.1 (by decide), hl.2.2⟩, q _ H (.refl H) (.int _)⟩
    · cases e
  · cases e
theorem os_neg : UnS C dNeg rNegA := by
  intro H α μ x a z Q S ra e q
  unfold dNeg at e
  split at e
  · cases e
    exact .inl ⟨_, ra.int, q _ H (.refl H) (.int _)⟩
  · cases e
    exact .inr ⟨_, ra.bl, q _ H (.refl H) (.int _)⟩
  · cases e
theorem os_cmpI {p : Int → Int → Bool} : OpS C (cmpI p) (rI0 fun i j => .bl (p i j)) := by
  intro H α μ x y a b z Q S ra rb e q
  unfold cmpI at e
  split at e
  · cases e
    exact ⟨_, _, ra.int, rb.int, q _ H (.refl H) (.bl _)⟩
  · cases e
theorem os_eq : OpS C dEq (rEqD C.K) := by
  intro H α μ x y a b z Q S ra rb e q
  unfold dEq at e
  split at e
  · rename_i h
    cases e
    exact ⟨_, _, ra.dp, rb.dp, h.1, h.2, q _ H (.refl H) (.bl _)⟩
  · cases e
theorem os_ne : OpS C dNe (rNeD C.K) := by
  intro H α μ x y a b z Q S ra rb e q
  unfold dNe at e
  split at e
  · rename_i h
    cases e
    exact ⟨_, _, ra.dp, rb.dp, h.1, h.2, q _ H (.refl H) (.bl _)⟩
  · cases e
/-! ### an item -/
theorem os_ix : OpS C dIx (fun x y H Q => rIxL C.K x y H Q ∨ rIxT C.K x y H Q) := by
  intro H α μ x y a b z Q S ra rb e q
  have key : ∀ {n : Nat} {i : Int}, ixI n i = ixN n i := rfl
  unfold dIx at e
  split at e
  · rename_i l i
    obtain ⟨p1, xs, rfl, h1, r1⟩ := ra.list
    have hb := rb.int
    subst hb
    cases e1 : ixI l.length i with
    | none => rw [e1] at e; cases e
    | some k =>
      rw [e1] at e
      obtain ⟨v, h2, h3⟩ := r1.get (show l[k]? = some z from e)
      refine .inl ⟨p1, xs, i, v, rfl, rfl, .inl h1, ?_, q _ H (.refl H) h3⟩
      show (ixN xs.length i).bind (fun j => xs[j]?) = some v
      rw [r1.length, ← key, e1]
      exact h2
  · rename_i l i
    obtain ⟨p1, xs, rfl, h1, r1⟩ := ra.tuple
    have hb := rb.int
    subst hb
    cases e1 : ixI l.length i with
    | none => rw [e1] at e; cases e
    | some k =>
      rw [e1] at e
      obtain ⟨v, h2, h3⟩ := r1.get (show l[k]? = some z from e)
      refine .inr ⟨p1, xs, i, v, rfl, rfl, h1, ?_, q _ H (.refl H) h3⟩
      show (ixN xs.length i).bind (fun j => xs[j]?) = some v
      rw [r1.length, ← key, e1]
      exact h2
  · cases e
/-! ### a slice -/
theorem six_eq (n d : Nat) (o : Option Int) : six n d o = HT.sIx n d o := by cases o <;> rfl
theorem RpAll.cut {K : PySem.W.Frag} {H : Hp} {M : Addr → Prop} {xs : List V} {ds : List D} (r : RpAll K H M xs ds) (lo hi : Option Int) : RpAll K H M (cutV xs lo hi) (cutL ds lo hi) := by
  unfold cutV cutL
  rw [six_eq, six_eq, r.length]
  exact (r.drop _).take _
theorem cut_all {xs : List V} {lo hi : Option Int} (h : HT.sIx xs.length 0 lo = 0 ∧ HT.sIx xs.length xs.length hi = xs.length) : cutV xs lo hi = xs := by
  unfold cutV
  rw [h.1, h.2]
  simp
theorem os_cut (S : Stor C H α μ) {x : V} {a z : D} {lo hi : Option Int} {Q : VK} (ra : RpT C.K H (Own α μ) x a) (e : dCut a lo hi = some z) (q : ∀ v H', Same H H' → Rp C.K H' (Own α μ) v z → Q v H') : (rSlL C.K x lo hi H Q ∨ rSlA C.K x lo hi H Q) ∨ rSlS x lo hi H Q := by
  unfold dCut at e
  split at e
  · split at e
    · rename_i hl
      cases e
      have hx := ra.str
      subst hx
      exact .inr ⟨_, rfl, lim_line hl, q _ H (.refl H) (.str _)⟩
    · cases e
  · cases e
    obtain ⟨p1, xs, rfl, h1, r1⟩ := ra.list
    refine .inl (.inl ⟨p1, xs, rfl, .inl h1, fun p np => ?_⟩)
    obtain ⟨sm, rp⟩ := rp_newL S np (r1.cut _ _)
    exact q _ _ sm rp
  · cases e
    obtain ⟨p1, xs, rfl, h1, r1⟩ := ra.tuple
    refine .inl (.inr ⟨p1, xs, rfl, h1, fun hw => ?_, fun hw p np => ?_⟩)
    · refine q _ H (.refl H) (.tup h1 ?_)
      have := r1.cut lo hi
      rw [cut_all hw] at this
      exact this
    · obtain ⟨sm, rp⟩ := rp_newT np (r1.cut _ _)
      exact q _ _ sm rp
  · cases e
end
/-! ### is True -/
section
variable {X : Cx} {C : Cv}
def rIsB (g : Bool → Bool → Bool) : R2 := fun x y H Q => ∃ i j, x = .bl i ∧ y = .bl j ∧ Q (.bl (g i j)) H
theorem op_isB : OpR X (compareOp .Is) (rIsB fun i j => i == j) := by
  intro pins s σ H x y v u Q I rx ry h
  obtain ⟨i, j, rfl, rfl, q⟩ := h
  cases rx
  cases ry
  exact is_bool ⟨.bl (i == j), H, I, rfl, q⟩
theorem op_isNotB : OpR X (compareOp .IsNot) (rIsB fun i j => i != j) := by
  intro pins s σ H x y v u Q I rx ry h
  obtain ⟨i, j, rfl, rfl, q⟩ := h
  cases rx
  cases ry
  exact isnot_bool ⟨.bl (i != j), H, I, rfl, q⟩
theorem os_isB : OpS C dIsB (rIsB fun i j => i == j) := by
  intro H α μ x y a b z Q S ra rb e q
  unfold dIsB at e
  split at e
  · cases e
    exact ⟨_, _, ra.bl, rb.bl, q _ H (.refl H) (.bl _)⟩
  · cases e
theorem os_isNotB : OpS C dIsNotB (rIsB fun i j => i != j) := by
  intro H α μ x y a b z Q S ra rb e q
  unfold dIsNotB at e
  split at e
  · cases e
    exact ⟨_, _, ra.bl, rb.bl, q _ H (.refl H) (.bl _)⟩
  · cases e
end
end L3

set_option Elab.async false
set_option linter.all false
set_option maxRecDepth 100000
/-! Arguments, displays, subscripts, slices, calls of builtins and of defs. -/
namespace L3
open PySem PySem.Spec PyProof.Rows L2 Mi

section
variable {C : Cv} {E : XK}
/-! ### membership -/
theorem Rp.flat {K : PySem.W.Frag} {H : Hp} {M : Addr → Prop} {v : V} {d : D} (r : Rp K H M v d) (h : flatD d = true) : flatV v = true := by
  cases r <;> first | rfl | cases h
theorem Rp.eqv {K : PySem.W.Frag} {H : Hp} {M : Addr → Prop} {v u : V} {d e : D} (r : Rp K H M v d) (q : Rp K H M u e) (h : flatD d = true) (h' : flatD e = true) : eqV v u = PyData.eqv d e := by
  cases r with
  | lst _ _ _ => cases h
  | tup _ _ => cases h
  | non => cases q <;> first | rfl | cases h'
  | bl b => cases q <;> first | rfl | cases h'
  | int b => cases q <;> first | rfl | cases h'
  | str b => cases q <;> first | rfl | cases h'

theorem RpAll.flat {K : PySem.W.Frag} {H : Hp} {M : Addr → Prop} : ∀ {vs : List V} {ds : List D}, RpAll K H M vs ds → ds.all flatD = true → vs.all flatV = true
  | _, _, .nil, _ => rfl
  | _, _, .cons r t, h => by
    rw [List.all_cons, Bool.and_eq_true] at h
    rw [List.all_cons, r.flat h.1, RpAll.flat t h.2]
    rfl
theorem RpAll.inV {K : PySem.W.Frag} {H : Hp} {M : Addr → Prop} {u : V} {e : D} (q : Rp K H M u e) (he : flatD e = true) : ∀ {vs : List V} {ds : List D}, RpAll K H M vs ds → ds.all flatD = true → L2.inV u vs = ds.any fun y => PyData.eqv y e
  | _, _, .nil, _ => rfl
  | _, _, .cons r t, h => by
    rw [List.all_cons, Bool.and_eq_true] at h
    have ih := RpAll.inV q he t h.2
    unfold L2.inV at ih ⊢
    rw [List.any_cons, List.any_cons, r.eqv q h.1 he, ih]
theorem RpT.flat {K : PySem.W.Frag} {H : Hp} {M : Addr → Prop} {v : V} {d : D} (r : RpT K H M v d) (h : flatD d = true) : Rp K H M v d := by
  rcases r with r | ⟨a, xs, ds, rfl, rfl, _⟩
  · exact r
  · cases h
def rInA (K : PySem.W.Frag) (neg : Bool) : R2 := fun x y H Q => rIn K neg x y H Q ∨ (∃ (c : Nat) (z : Str), x = .str ⟨#[c]⟩ ∧ y = .str z ∧ Q (.bl (if neg then !decide (c ∈ z.cps.toList) else decide (c ∈ z.cps.toList))) H)
theorem op_inA {X : Cx} : OpR X (compareOp .In) (rInA X.K false) := op_in_seq.or op_in_sign
theorem op_notInA {X : Cx} : OpR X (compareOp .NotIn) (rInA X.K true) := op_notIn_seq.or op_notIn_sign
theorem str1 {x : Str} (h : x.cps.size = 1) : x = ⟨#[x.cps.getD 0 0]⟩ := by
  obtain ⟨⟨l⟩⟩ := x
  match l, h with
  | [a], _ => rfl
theorem in_core {neg : Bool} {H : Hp} {α : Al} {μ : Sto} {x y : V} {a b : D} {k : Bool} {Q : VK} (S : Stor C H α μ) (ra : RpT C.K H (Own α μ) x a) (rb : RpT C.K H (Own α μ) y b) (e : dIn a b = some (.bool k)) (q : Q (.bl (if neg then !k else k)) H) : rInA C.K neg x y H Q := by
  unfold dIn at e
  split at e
  · rename_i l
    split at e
    · rename_i h
      injection e with e
      injection e with e
      obtain ⟨p1, xs, rfl, h1, r1⟩ := rb.list
      have r0 := ra.flat h.1
      exact .inl ⟨p1, xs, rfl, .inl (.inl h1), r0.flat h.1, r1.flat h.2, by rw [r1.inV r0 h.1 h.2, e]; exact q⟩
    · cases e
  · rename_i l
    split at e
    · rename_i h
      injection e with e
      injection e with e
      obtain ⟨p1, xs, rfl, h1, r1⟩ := rb.tuple
      have r0 := ra.flat h.1
      exact .inl ⟨p1, xs, rfl, .inr h1, r0.flat h.1, r1.flat h.2, by rw [r1.inV r0 h.1 h.2, e]; exact q⟩
    · cases e
  · split at e
    · rename_i h
      injection e with e
      injection e with e
      have h1 := ra.str
      have h2 := rb.str
      subst h1 h2
      exact .inr ⟨_, _, by rw [← str1 h], rfl, by rw [e]; exact q⟩
    · cases e
  · cases e
theorem dIn_bool {a b z : D} (e : dIn a b = some z) : ∃ k, z = .bool k := by
  unfold dIn at e
  split at e
  · split at e
    · cases e; exact ⟨_, rfl⟩
    · cases e
  · split at e
    · cases e; exact ⟨_, rfl⟩
    · cases e
  · split at e
    · cases e; exact ⟨_, rfl⟩
    · cases e
  · cases e
theorem os_in : OpS C dIn (rInA C.K false) := by
  intro H α μ x y a b z Q S ra rb e q
  obtain ⟨k, rfl⟩ := dIn_bool e
  exact in_core S ra rb e (q _ H (.refl H) (.bl k))
theorem os_notIn : OpS C dNotIn (rInA C.K true) := by
  intro H α μ x y a b z Q S ra rb e q
  unfold dNotIn at e
  split at e
  · rename_i k e1
    cases e
    exact in_core S ra rb e1 (q _ H (.refl H) (.bl (!k)))
  · cases e

/-! ### argument lists -/
def PQs (C : Cv) (E : XK) (Q : List V → Hp → Prop) (H : Hp) (α : Al) (μ : Sto) : R (List W) → Prop
  | .ok ws μ' => ∀ vs H' α', Step H α μ H' α' μ' → Stor C H' α' μ' → RpWs C H' α' μ' vs ws → Q vs H'
  | .er x μ' => ∀ cls d H' α', Step H α μ H' α' μ' → Stor C H' α' μ' → RpX C H' cls d x → E cls d H'
  | .no => False
def tDs (C : Cv) (E : XK) (a : AF) : TA := fun σ H Q => ∃ ρ α μ, Stor C H α μ ∧ Sl C H α μ σ ρ ∧ PQs C E Q H α μ (a ρ μ)
theorem PQs.step {Q : List V → Hp → Prop} {H H1 : Hp} {α α1 : Al} {μ μ1 : Sto} {r : R (List W)} (h : PQs C E Q H α μ r) (st : Step H α μ H1 α1 μ1) : PQs C E Q H1 α1 μ1 r := by
  cases r with
  | ok w μ' => exact fun v H' α' s S q => h v H' α' (st.trans s) S q
  | er x μ' => exact fun cls d H' α' s S q => h cls d H' α' (st.trans s) S q
  | no => exact h
theorem tD_binds {Q' : VK} {Q : List V → Hp → Prop} {H : Hp} {α : Al} {μ : Sto} {σ : L2.St} {ρ : Mi.Env} {f : EF} {k : W → Sto → R (List W)} (S : Stor C H α μ) (sl : Sl C H α μ σ ρ) (h : PQs C E Q H α μ ((f ρ μ).bind k))
    (cont : ∀ v w H1 α1 μ1, Step H α μ H1 α1 μ1 → Stor C H1 α1 μ1 → Sl C H1 α1 μ1 σ ρ → RpW C H1 α1 μ1 v w → PQs C E Q H1 α1 μ1 (k w μ1) → Q' v H1) : tD C E f σ H Q' := by
  refine ⟨ρ, α, μ, S, sl, ?_⟩
  cases e : f ρ μ with
  | ok w μ1 =>
    rw [e] at h
    exact fun v H1 α1 st S1 r => cont v w H1 α1 μ1 st S1 (sl.step st) r (PQs.step (r := k w μ1) h st)
  | er x μ1 => rw [e] at h; exact h
  | no => rw [e] at h; exact (show False from h).elim
theorem tDs_binds {Q Q' : List V → Hp → Prop} {H : Hp} {α : Al} {μ : Sto} {σ : L2.St} {ρ : Mi.Env} {f : AF} {k : List W → Sto → R (List W)} (S : Stor C H α μ) (sl : Sl C H α μ σ ρ) (h : PQs C E Q H α μ ((f ρ μ).bind k))
    (cont : ∀ v w H1 α1 μ1, Step H α μ H1 α1 μ1 → Stor C H1 α1 μ1 → Sl C H1 α1 μ1 σ ρ → RpWs C H1 α1 μ1 v w → PQs C E Q H1 α1 μ1 (k w μ1) → Q' v H1) : tDs C E f σ H Q' := by
  refine ⟨ρ, α, μ, S, sl, ?_⟩
  cases e : f ρ μ with
  | ok w μ1 =>
    rw [e] at h
    exact fun v H1 α1 st S1 r => cont v w H1 α1 μ1 st S1 (sl.step st) r (PQs.step (r := k w μ1) h st)
  | er x μ1 => rw [e] at h; exact h
  | no => rw [e] at h; exact (show False from h).elim
theorem tDs_bind {Q : VK} {Q' : List V → Hp → Prop} {H : Hp} {α : Al} {μ : Sto} {σ : L2.St} {ρ : Mi.Env} {f : AF} {k : List W → Sto → R W} (S : Stor C H α μ) (sl : Sl C H α μ σ ρ) (h : PQ C E Q H α μ ((f ρ μ).bind k))
    (cont : ∀ v w H1 α1 μ1, Step H α μ H1 α1 μ1 → Stor C H1 α1 μ1 → Sl C H1 α1 μ1 σ ρ → RpWs C H1 α1 μ1 v w → PQ C E Q H1 α1 μ1 (k w μ1) → Q' v H1) : tDs C E f σ H Q' := by
  refine ⟨ρ, α, μ, S, sl, ?_⟩
  cases e : f ρ μ with
  | ok w μ1 =>
    rw [e] at h
    exact fun v H1 α1 st S1 r => cont v w H1 α1 μ1 st S1 (sl.step st) r (PQ.step (r := k w μ1) h st)
  | er x μ1 => rw [e] at h; exact h
  | no => rw [e] at h; exact (show False from h).elim
theorem RpWs.asDs {H : Hp} {α : Al} {μ : Sto} : ∀ {vs : List V} {ws : List W} {ds : List D}, RpWs C H α μ vs ws → Mi.asDs ws = some ds → RpAll C.K H (Own α μ) vs ds
  | _, _, _, .nil, e => by cases e; exact .nil
  | _, .d d :: ws, _, .cons r t, e => by
    rw [asDs_cons] at e
    cases e1 : Mi.asDs ws with
    | none => rw [e1] at e; cases e
    | some ds =>
      rw [e1] at e
      cases e
      exact .cons r (RpWs.asDs t e1)
  | _, .m k :: ws, _, .cons r t, e => by cases e
  | _, .f k :: ws, _, .cons r t, e => by cases e
  | _, .x k :: ws, _, .cons r t, e => by cases e
inductive RpTs (C : Cv) (H : Hp) (M : Addr → Prop) : List V → List D → Prop
  | nil : RpTs C H M [] []
  | cons {v : V} {vs : List V} {d : D} {ds : List D} : RpT C.K H M v d → RpTs C H M vs ds → RpTs C H M (v :: vs) (d :: ds)
theorem RpWs.views {H : Hp} {α : Al} {μ : Sto} (S : Stor C H α μ) : ∀ {vs : List V} {ws : List W} {ds : List D}, RpWs C H α μ vs ws → Mi.views μ ws = some ds → RpTs C H (Own α μ) vs ds
  | _, _, _, .nil, e => by cases e; exact .nil
  | _, w :: ws, _, .cons r t, e => by
    unfold Mi.views at e
    cases e1 : Mi.view μ w with
    | none => rw [e1] at e; cases e
    | some d =>
      rw [e1] at e
      cases e2 : Mi.views μ ws with
      | none => simp [e2] at e
      | some ds =>
        simp only [e2, Option.bind_some, Option.map_some, Option.some.injEq] at e
        subst e
        exact .cons (r.view S e1) (RpWs.views S t e2)
end

section
variable {X : Cx} {T : List (Addr × Str)} {E : XK} {j : Nat} {pos : Pos} {a b c : Expr} {f g h : EF} {es : List Expr} {r : AF}
structure DA (X : Cx) (T : List (Addr × Str)) (E : XK) (es : List Expr) (a : AF) : Prop where
  pa : PA X es (tDs (CvX X T) E a)
  len : ∀ ρ μ ws μ', a ρ μ = .ok ws μ' → ws.length = es.length
theorem pa_imp {t t' : TA} (h : PA X es t) (i : ∀ σ H Q, t' σ H Q → t σ H Q) : PA X es t' := ⟨fun ps pins s σ H Q I q => h.run ps pins s σ H Q I (i _ _ _ q)⟩
theorem da_nil : DA X T E [] aNil :=
  ⟨pa_imp pa_nil fun σ H Q ⟨ρ, α, μ, S, sl, q⟩ => q [] H α (.refl _ _ _) S .nil, fun ρ μ ws μ' e => by cases e; rfl⟩
theorem da_cons (ha : DE X T E a f) (hr : DA X T E es r) (hs : starEach (a :: es) X.env = (false, eval a X.env) :: starEach es X.env := by rfl) : DA X T E (a :: es) (aCons f r) := by
  refine ⟨pa_imp (pa_cons ha hr.pa hs) fun σ H Q ⟨ρ, α, μ, S, sl, q⟩ => ?_, fun ρ μ ws μ' e => ?_⟩
  · refine tD_binds S sl q fun v w H1 α1 μ1 st1 S1 sl1 r1 q1 => ?_
    exact tDs_binds S1 sl1 q1 fun vs ws H2 α2 μ2 st2 S2 sl2 r2 q2 => q2 (v :: vs) H2 α2 (.refl _ _ _) S2 (.cons (r1.step st2) r2)
  · unfold aCons at e
    cases e1 : f ρ μ with
    | ok w μ1 =>
      rw [e1] at e
      cases e2 : r ρ μ1 with
      | ok ws2 μ2 =>
        rw [R.bind_ok, e2, R.bind_ok] at e
        cases e
        exact congrArg (· + 1) (hr.len ρ μ1 ws2 _ e2)
      | er x μ2 => rw [R.bind_ok, e2] at e; cases e
      | no => rw [R.bind_ok, e2] at e; cases e
    | er x μ1 => rw [e1] at e; cases e
    | no => rw [e1] at e; cases e
theorem DA.read (hr : DA X T E es r) {C : Cv} {Q : VK} {H : Hp} {α : Al} {μ : Sto} {σ : L2.St} {ρ : Mi.Env} {k : List W → Sto → R W} {Q' : List V → Hp → Prop} (S : Stor (CvX X T) H α μ) (sl : Sl (CvX X T) H α μ σ ρ) (q : PQ (CvX X T) E Q H α μ ((r ρ μ).bind k))
    (cont : ∀ v w H1 α1 μ1, Step H α μ H1 α1 μ1 → Stor (CvX X T) H1 α1 μ1 → Sl (CvX X T) H1 α1 μ1 σ ρ → RpWs (CvX X T) H1 α1 μ1 v w → w.length = es.length → PQ (CvX X T) E Q H1 α1 μ1 (k w μ1) → Q' v H1) : tDs (CvX X T) E r σ H Q' := by
  refine ⟨ρ, α, μ, S, sl, ?_⟩
  cases e : r ρ μ with
  | ok w μ1 =>
    rw [e] at q
    exact fun v H1 α1 st S1 rr => cont v w H1 α1 μ1 st S1 (sl.step st) rr (hr.len _ _ _ _ e) (PQ.step (r := k w μ1) q st)
  | er x μ1 => rw [e] at q; exact q
  | no => rw [e] at q; exact (show False from q).elim
/-! ### displays -/
theorem de_tup {k : Nat} (hr : DA X T E es r) (hl : es.length ≤ 1000 := by decide) : DE X T E (.Tuple es k pos) (eTup r) :=
  pe_imp (pe_tup hr.pa) fun σ H Q ⟨ρ, α, μ, S, sl, q⟩ => hr.read (C := CvX X T) S sl q fun vs ws H1 α1 μ1 st S1 sl1 rs ln q1 => by
    obtain ⟨z, e, q2⟩ := PQ.ofO q1
    cases e1 : Mi.asDs ws with
    | none => rw [e1] at e; cases e
    | some ds =>
      rw [e1] at e
      cases e
      refine ⟨by rw [rs.length, ln]; exact Nat.le_trans hl (by decide), fun p np => ?_⟩
      obtain ⟨sm, rp⟩ := rp_newT np (rs.asDs e1)
      exact q2 _ _ _ (Same.step S1 sm) (S1.same sm) rp
theorem de_lst (hr : DA X T E es r) (hl : es.length ≤ 1000 := by decide) : DE X T E (.List es pos) (eLst r) :=
  pe_imp (pe_lst hr.pa) fun σ H Q ⟨ρ, α, μ, S, sl, q⟩ => hr.read (C := CvX X T) S sl q fun vs ws H1 α1 μ1 st S1 sl1 rs ln q1 => by
    obtain ⟨z, e, q2⟩ := PQ.ofO q1
    cases e1 : Mi.asDs ws with
    | none => rw [e1] at e; cases e
    | some ds =>
      rw [e1] at e
      cases e
      refine ⟨by rw [rs.length, ln]; exact Nat.le_trans hl (by decide), fun p np => ?_⟩
      obtain ⟨sm, rp⟩ := rp_newL S1 np (rs.asDs e1)
      exact q2 _ _ _ (Same.step S1 sm) (S1.same sm) rp
end
section
variable {C : Cv} {H : Hp} {α : Al} {μ : Sto}
/-- what was not tracked becomes one's own -/
def Al.push (α : Al) (p : Addr) : Al := ⟨α.own ++ [p], α.hid⟩
theorem own_push {p : Addr} {c : Cell} {a : Addr} (hl : α.own.length = μ.length) : Own (α.push p) (μ ++ [some c]) a ↔ Own α μ a ∨ a = p := by
  constructor
  · rintro (⟨k, d, h1, h2⟩ | h)
    · have h1 : (α.own ++ [p])[k]? = some a := h1
      by_cases hk : k < α.own.length
      · rw [List.getElem?_append_left hk] at h1
        rw [List.getElem?_append_left (by omega)] at h2
        exact .inl (.inl ⟨k, d, h1, h2⟩)
      · rw [List.getElem?_append_right (by omega)] at h1
        by_cases hz : k - α.own.length = 0
        · rw [hz] at h1
          exact .inr (Option.some.inj h1).symm
        · rw [List.getElem?_eq_none (by simp; omega)] at h1
          cases h1
    · exact .inl (.inr h)
  · rintro ((⟨k, d, h1, h2⟩ | h) | rfl)
    · have hk : k < α.own.length := (List.getElem?_eq_some_iff.mp h1).1
      have hk2 : k < μ.length := (List.getElem?_eq_some_iff.mp h2).1
      exact .inl ⟨k, d, by show (α.own ++ [p])[k]? = _; rw [List.getElem?_append_left hk]; exact h1, by rw [List.getElem?_append_left hk2]; exact h2⟩
    · exact .inr h
    · exact .inl ⟨α.own.length, c, by show (α.own ++ [a])[_]? = _; rw [List.getElem?_append_right (Nat.le_refl _)]; simp, by rw [hl, List.getElem?_append_right (Nat.le_refl _)]; simp⟩
theorem step_push (S : Stor C H α μ) {p : Addr} {xs : List V} {ds : List D} (np : H p = none) : Step H α μ (upd H p (.lst xs)) (α.push p) (μ ++ [some (.lst ds)]) := by
  refine ⟨⟨fun b o h n _ => ⟨same_upd np b o h, fun z => ?_⟩, fun b xs h => same_upd np b _ h, fun b o u h => same_upd np b _ h⟩, fun k a h => ?_, rfl, (Same.step S (same_upd np)).keep⟩
  · rcases (own_push S.len).mp z with z | z
    · exact n z
    · rw [z, np] at h; cases h
  · show (α.own ++ [p])[k]? = _
    rw [List.getElem?_append_left (List.getElem?_eq_some_iff.mp h).1]
    exact h
theorem stor_push (S : Stor C H α μ) {p : Addr} {xs : List V} {ds : List D} (np : H p = none) (r : RpAll C.K H (Own α μ) xs ds) : Stor C (upd H p (.lst xs)) (α.push p) (μ ++ [some (.lst ds)]) := by
  have st := step_push (xs := xs) (ds := ds) S np
  have fresh : ∀ a ∈ α.own ++ α.hid, a ≠ p := fun a ha e => by
    obtain ⟨o, q, _⟩ := S.there a ha
    rw [e, np] at q; cases q
  refine ⟨by simp [Al.push, S.len], ?_, fun a h => ?_, fun k c h => ?_, S.tabs.ext (same_upd np)⟩
  · show ((α.own ++ [p]) ++ α.hid).Nodup
    have h := S.nd
    rw [List.append_assoc, List.singleton_append, List.Perm.nodup_iff List.perm_middle]
    exact List.nodup_cons.mpr ⟨fun z => fresh p z rfl, h⟩
  · have h : a ∈ (α.own ++ [p]) ++ α.hid := h
    by_cases e : a = p
    · subst e
      exact ⟨_, upd_same, fun _ z => by cases z⟩
    · have hm : a ∈ α.own ++ α.hid := by
        rcases List.mem_append.mp h with h | h
        · rcases List.mem_append.mp h with h | h
          · exact List.mem_append_left _ h
          · exact absurd (by simpa using h) e
        · exact List.mem_append_right _ h
      obtain ⟨o, q, n⟩ := S.there a hm
      exact ⟨o, same_upd np _ _ q, n⟩
  · by_cases hk : k < μ.length
    · rw [List.getElem?_append_left hk] at h
      obtain ⟨a, h1, h2⟩ := S.cell k c h
      refine ⟨a, st.pre _ _ h1, ?_⟩
      cases c with
      | lst l => obtain ⟨ys, e1, e2⟩ := h2; exact ⟨ys, same_upd np _ _ e1, e2.ext st.ext⟩
      | ins c fs => obtain ⟨A, dx, gs, e1, e2, e3, e4⟩ := h2; exact ⟨A, dx, gs, e1, same_upd np _ _ e2, e3, e4.ext st.ext⟩
    · rw [List.getElem?_append_right (by omega)] at h
      by_cases hz : k - μ.length = 0
      · rw [hz] at h
        cases h
        refine ⟨p, ?_, xs, upd_same, r.ext st.ext⟩
        show (α.own ++ [p])[k]? = _
        rw [List.getElem?_append_right (by rw [S.len]; omega), S.len, hz]
        rfl
      · rw [List.getElem?_eq_none (by simp; omega)] at h
        cases h
end

section
variable {X : Cx} {T : List (Addr × Str)} {E : XK} {j : Nat} {pos : Pos} {a b c : Expr} {f g h : EF} {es : List Expr} {r : AF}
theorem de_lstM (hr : DA X T E es r) (hl : es.length ≤ 1000 := by decide) : DE X T E (.List es pos) (eLstM r) :=
  pe_imp (pe_lst hr.pa) fun σ H Q ⟨ρ, α, μ, S, sl, q⟩ => hr.read (C := CvX X T) S sl q fun vs ws H1 α1 μ1 st S1 sl1 rs ln q1 => by
    refine ⟨by rw [rs.length, ln]; exact Nat.le_trans hl (by decide), fun p np => ?_⟩
    split at q1
    · rename_i ds e1
      have rr := rs.asDs e1
      exact q1 _ _ _ (step_push S1 np) (stor_push S1 np rr) ⟨p, by show (α1.own ++ [p])[_]? = _; rw [← S1.len]; simp, rfl⟩
    · exact (show False from q1).elim
/-! ### subscripts, slices -/
theorem de_ix (ha : DE X T E a f) (hb : DE X T E b g) (hs : PlainIx b := by exact fun _ _ => rfl) : DE X T E (.Subscript a b pos) (eOp dIx f g) :=
  pe_imp (pe_ix (ix_list.or ix_tup) ha hb hs) fun σ H Q q => op_rd os_ix q
structure DP (X : Cx) (T : List (Addr × Str)) (E : XK) (e : Option Expr) (o : Option EF) : Prop where
  po : PO X e (fun σ H Q => ∃ ρ α μ, Stor (CvX X T) H α μ ∧ Sl (CvX X T) H α μ σ ρ ∧ (match ePart o ρ μ with
    | .ok i μ1 => ∀ H1 α1, Step H α μ H1 α1 μ1 → Stor (CvX X T) H1 α1 μ1 → Q i H1
    | .er x μ1 => ∀ cls d H1 α1, Step H α μ H1 α1 μ1 → Stor (CvX X T) H1 α1 μ1 → RpX (CvX X T) H1 cls d x → E cls d H1
    | .no => False))
theorem po_imp {e : Option Expr} {t t' : TO} (h : PO X e t) (i : ∀ σ H Q, t' σ H Q → t σ H Q) : PO X e t' := ⟨fun pins s σ H Q I q => h.run pins s σ H Q I (i _ _ _ q)⟩
theorem dp_none : DP X T E none none := ⟨po_imp po_none fun σ H Q ⟨ρ, α, μ, S, sl, q⟩ => q H α (.refl _ _ _) S⟩
theorem dp_some (ha : DE X T E a f) : DP X T E (some a) (some f) := ⟨po_imp (po_some ha) fun σ H Q ⟨ρ, α, μ, S, sl, q⟩ => by
  refine ⟨ρ, α, μ, S, sl, ?_⟩
  have e : ePart (some f) ρ μ = (f ρ μ).bind fun w μ1 => match w with | .d (.int i) => .ok (some i) μ1 | _ => .no := rfl
  rw [e] at q
  cases e1 : f ρ μ with
  | ok w μ1 =>
    rw [e1, R.bind_ok] at q
    intro v H1 α1 st S1 rv
    cases w with
    | d d =>
      cases d with
      | int i => cases rv; exact ⟨i, rfl, q H1 α1 st S1⟩
      | none => exact q.elim
      | bool i => exact q.elim
      | str i => exact q.elim
      | list i => exact q.elim
      | tuple i => exact q.elim
      | dict i => exact q.elim
    | m k => exact q.elim
    | f k => exact q.elim
    | x k => exact q.elim
  | er x μ1 => rw [e1] at q; exact q
  | no => rw [e1] at q; exact q⟩
theorem DP.read {e : Option Expr} {o : Option EF} (hp : DP X T E e o) {Q : VK} {H : Hp} {α : Al} {μ : Sto} {σ : L2.St} {ρ : Mi.Env} {k : Option Int → Sto → R W} {Q' : Option Int → Hp → Prop} {t : TO} (S : Stor (CvX X T) H α μ) (sl : Sl (CvX X T) H α μ σ ρ) (q : PQ (CvX X T) E Q H α μ ((ePart o ρ μ).bind k))
    (cont : ∀ i H1 α1 μ1, Step H α μ H1 α1 μ1 → Stor (CvX X T) H1 α1 μ1 → Sl (CvX X T) H1 α1 μ1 σ ρ → PQ (CvX X T) E Q H1 α1 μ1 (k i μ1) → Q' i H1) :
    ∃ ρ α μ, Stor (CvX X T) H α μ ∧ Sl (CvX X T) H α μ σ ρ ∧ (match ePart o ρ μ with
    | .ok i μ1 => ∀ H1 α1, Step H α μ H1 α1 μ1 → Stor (CvX X T) H1 α1 μ1 → Q' i H1
    | .er x μ1 => ∀ cls d H1 α1, Step H α μ H1 α1 μ1 → Stor (CvX X T) H1 α1 μ1 → RpX (CvX X T) H1 cls d x → E cls d H1
    | .no => False) := by
  refine ⟨ρ, α, μ, S, sl, ?_⟩
  cases e : ePart o ρ μ with
  | ok i μ1 =>
    rw [e] at q
    exact fun H1 α1 st S1 => cont i H1 α1 μ1 st S1 (sl.step st) (PQ.step (r := k i μ1) q st)
  | er x μ1 => rw [e] at q; exact q
  | no => rw [e] at q; exact q
theorem de_sl {lo hi : Option Expr} {p2 : Pos} {o u : Option EF} (ha : DE X T E a f) (hl : DP X T E lo o) (hh : DP X T E hi u) : DE X T E (.Subscript a (.Slice lo hi none p2) pos) (eSl dCut f o u) :=
  pe_imp (pe_slice ((sl_list.or sl_tupA).or sl_str) ha hl.po hh.po) fun σ H Q ⟨ρ, α, μ, S, sl, q⟩ => tD_bind S sl q fun v w H1 α1 μ1 st1 S1 sl1 r1 q1 => by
    refine hl.read (t := fun _ _ _ => True) S1 sl1 q1 fun i H2 α2 μ2 st2 S2 sl2 q2 => ?_
    refine hh.read (t := fun _ _ _ => True) S2 sl2 q2 fun k H3 α3 μ3 st3 S3 sl3 q3 => ?_
    obtain ⟨z, e, q4⟩ := PQ.ofO q3
    cases e1 : view μ3 w with
    | none => rw [e1] at e; cases e
    | some d =>
      simp only [e1, Option.bind_some] at e
      cases e2 : dCut d i k with
      | none => rw [e2] at e; cases e
      | some d2 =>
        rw [e2] at e
        cases e
        exact os_cut S3 (((r1.step st2).step st3).view S3 e1) e2 fun v H' sm rv => q4 v H' α3 (Same.step S3 sm) (S3.same sm) rv
/-- a module's tuple of texts -/
def GTup (K : PySem.W.Frag) (mg : Str → Option Value) (x : Str) (ds : List D) : Prop := ∃ a xs, mg x = some (.ref a) ∧ ∀ H M, SqT K H a xs ∧ RpAll K H M xs ds
theorem de_gtup {x : Str} {ds : List D} (h : GTup X.K X.mg x ds) (hg : Gl X x := by rfl) (hd : (x == ("__debug__" : Str)) = false := by decide) : DE X T E (.Name x pos) (eC (.tuple ds)) := by
  obtain ⟨A, xs, hm, hr⟩ := h
  exact pe_imp (pe_glob hg hm (v := .ref A) rfl hd) fun σ H Q ⟨ρ, α, μ, S, sl, q⟩ => PQ.ok (w := .d (.tuple ds)) S (.tup (hr H (Own α μ)).1 (hr H (Own α μ)).2) q
/-- xs[::-1] -/
theorem de_rev {j1 : Nat} {p1 p2 p3 : Pos} (ha : DE X T E a f) : DE X T E (.Subscript a (.Slice none none (some (.UnaryOp .USub (.Constant (.int 1) j1 p1) p2)) p3) pos) (eUn dRevL f) :=
  pe_imp (pe_revL ha) fun σ H Q ⟨ρ, α, μ, S, sl, q⟩ => tD_bind S sl q fun v w H1 α1 μ1 st1 S1 sl1 r1 q1 => by
    obtain ⟨z, e, q2⟩ := PQ.ofO q1
    cases e1 : view μ1 w with
    | none => rw [e1] at e; cases e
    | some d =>
      simp only [e1, Option.bind_some] at e
      cases d with
      | list l =>
        cases e
        obtain ⟨p4, xs, rfl, h4, r4⟩ := (r1.view S1 e1).list
        refine ⟨p4, xs, rfl, .inl h4, fun p np => ?_⟩
        obtain ⟨sm, rp⟩ := rp_newL S1 np r4.reverse
        exact q2 _ _ _ (Same.step S1 sm) (S1.same sm) rp
      | none => cases e
      | bool b => cases e
      | int b => cases e
      | str b => cases e
      | tuple b => cases e
      | dict b => cases e
/-! ### builtins -/
def BlS (C : Cv) (h : List D → Option D) (r : List V → Hp → VK → Prop) : Prop := ∀ H α μ xs ds z Q, Stor C H α μ → RpTs C H (Own α μ) xs ds → h ds = some z → (∀ v H', Same H H' → Rp C.K H' (Own α μ) v z → Q v H') → r xs H Q
theorem blt_rd {hh : List D → Option D} {rr : List V → Hp → VK → Prop} (hs : BlS (CvX X T) hh rr) (hr : DA X T E es r) {σ : L2.St} {H : Hp} {Q : VK} (q : tD (CvX X T) E (eBlt hh r) σ H Q) : tDs (CvX X T) E r σ H fun vs H1 => rr vs H1 Q := by
  obtain ⟨ρ, α, μ, S, sl, q⟩ := q
  refine hr.read (C := CvX X T) S sl q fun vs ws H1 α1 μ1 st S1 sl1 rs ln q1 => ?_
  obtain ⟨z, e, q2⟩ := PQ.ofO q1
  cases e1 : Mi.views μ1 ws with
  | none => rw [e1] at e; cases e
  | some ds =>
    simp only [e1, Option.bind_some] at e
    cases e2 : hh ds with
    | none => rw [e2] at e; cases e
    | some d =>
      rw [e2] at e
      cases e
      exact hs H1 α1 μ1 vs ds d Q S1 (rs.views S1 e1) e2 fun v H' sm rv => q2 v H' α1 (Same.step S1 sm) (S1.same sm) rv
theorem de_blt {x : Str} {id : String} {p : Pos} {hh : List D → Option D} {rr : List V → Hp → VK → Prop} (hc : CallR X (.builtin id) rr) (hs : BlS (CvX X T) hh rr) (hm : X.mg x = none) (hv : bootBuiltins x = some (.builtin id)) (hr : DA X T E (a :: es) r) (hg : Gl X x := by rfl) (hn : x ≠ "__name__" := by decide) (hdb : (x == ("__debug__" : Str)) = false := by decide)
    (he : starEach (a :: es) X.env = (false, eval a X.env) :: starEach es X.env := by rfl) (hpl : (backTo pos (starEach es X.env)).any (·.1) = false := by rfl) : DE X T E (.Call (.Name x p) (a :: es) [] pos) (eBlt hh r) :=
  pe_imp (pe_callB hc hg hm hv hr.pa hn hdb he hpl) fun σ H Q q => blt_rd hs hr q
theorem de_bty {x : Str} {id : String} {p : Pos} {hh : List D → Option D} {rr : List V → Hp → VK → Prop} (hc : CallR X (.type id) rr) (hs : BlS (CvX X T) hh rr) (hm : X.mg x = none) (hv : bootBuiltins x = some (.type id)) (hr : DA X T E (a :: es) r) (hg : Gl X x := by rfl) (hn : x ≠ "__name__" := by decide) (hdb : (x == ("__debug__" : Str)) = false := by decide)
    (he : starEach (a :: es) X.env = (false, eval a X.env) :: starEach es X.env := by rfl) (hpl : (backTo pos (starEach es X.env)).any (·.1) = false := by rfl) : DE X T E (.Call (.Name x p) (a :: es) [] pos) (eBlt hh r) :=
  pe_imp (pe_callTy hc hg hm hv hr.pa hn hdb he hpl) fun σ H Q q => blt_rd hs hr q
end
/-! ### single builtins -/
section
variable {C : Cv}
theorem RpTs.one {H : Hp} {M : Addr → Prop} {xs : List V} {d : D} (h : RpTs C H M xs [d]) : ∃ x, xs = [x] ∧ RpT C.K H M x d := by
  cases h with
  | cons r t => cases t; exact ⟨_, rfl, r⟩
theorem RpTs.two {H : Hp} {M : Addr → Prop} {xs : List V} {d e : D} (h : RpTs C H M xs [d, e]) : ∃ x y, xs = [x, y] ∧ RpT C.K H M x d ∧ RpT C.K H M y e := by
  cases h with
  | cons r t => cases t with
    | cons r2 t => cases t; exact ⟨_, _, rfl, r, r2⟩
theorem bs_len : BlS C bLen (fun xs H Q => ∃ x n, xs = [x] ∧ LenV C.K x H n ∧ Q (.int n) H) := by
  intro H α μ xs ds z Q S rs e q
  unfold bLen at e
  split at e
  · cases e
    obtain ⟨x, rfl, r0⟩ := rs.one
    obtain ⟨p1, ys, rfl, h1, r1⟩ := r0.list
    exact ⟨_, ys.length, rfl, .inl ⟨ys, .inl h1, rfl⟩, by rw [r1.length]; exact q _ H (.refl H) (.int _)⟩
  · cases e
    obtain ⟨x, rfl, r0⟩ := rs.one
    obtain ⟨p1, ys, rfl, h1, r1⟩ := r0.tuple
    exact ⟨_, ys.length, rfl, .inr ⟨ys, h1, rfl⟩, by rw [r1.length]; exact q _ H (.refl H) (.int _)⟩
  · split at e
    · rename_i hl
      cases e
      obtain ⟨x, rfl, r0⟩ := rs.one
      have hh := r0.str
      subst hh
      exact ⟨_, _, rfl, ⟨lim_line hl, rfl⟩, q _ H (.refl H) (.int _)⟩
    · cases e
  · cases e
theorem bs_max2 : BlS C bMax2 (fun xs H Q => ∃ i j, xs = [.int i, .int j] ∧ Q (.int (if j > i then j else i)) H) := by
  intro H α μ xs ds z Q S rs e q
  unfold bMax2 at e
  split at e
  · cases e
    obtain ⟨x, y, rfl, r1, r2⟩ := rs.two
    exact ⟨_, _, by rw [r1.int, r2.int], q _ H (.refl H) (.int _)⟩
  · cases e
theorem bs_min2 : BlS C bMin2 (fun xs H Q => ∃ i j, xs = [.int i, .int j] ∧ Q (.int (if j < i then j else i)) H) := by
  intro H α μ xs ds z Q S rs e q
  unfold bMin2 at e
  split at e
  · cases e
    obtain ⟨x, y, rfl, r1, r2⟩ := rs.two
    exact ⟨_, _, by rw [r1.int, r2.int], q _ H (.refl H) (.int _)⟩
  · cases e
theorem bs_int : BlS C bInt (fun xs H Q => ((∃ i, xs = [.int i] ∧ Q (.int i) H) ∨ ∃ k, xs = [.bl k] ∧ Q (.int (if k then 1 else 0)) H) ∨ ∃ a n, xs = [.str a] ∧ PySem.intText? a = some n ∧ a.length ≤ 640 ∧ Q (.int n) H) := by
  intro H α μ xs ds z Q S rs e q
  unfold bInt at e
  split at e
  · cases e
    obtain ⟨x, rfl, r1⟩ := rs.one
    exact .inl (.inl ⟨_, by rw [r1.int], q _ H (.refl H) (.int _)⟩)
  · rename_i a
    obtain ⟨x, rfl, r1⟩ := rs.one
    cases e1 : PySem.intText? a with
    | none => rw [e1] at e; cases e
    | some n =>
      rw [e1] at e
      simp only [Option.bind_some] at e
      split at e
      · rename_i hl
        cases e
        exact .inr ⟨a, n, by rw [r1.str], e1, hl, q _ H (.refl H) (.int _)⟩
      · cases e
  · cases e
    obtain ⟨x, rfl, r1⟩ := rs.one
    exact .inl (.inr ⟨_, by rw [r1.bl], q _ H (.refl H) (.int _)⟩)
  · cases e
theorem bs_str : BlS C bStr (fun xs H Q => (∃ i, xs = [.int i] ∧ i.natAbs.log2 < 1920 ∧ Q (.str (toString i)) H) ∨ ((∃ a, xs = [.str a] ∧ Q (.str a) H) ∨ ∃ b, xs = [.bl b] ∧ Q (.str (if b then "True" else "False")) H)) := by
  intro H α μ xs ds z Q S rs e q
  unfold bStr at e
  split at e
  · split at e
    · rename_i hl
      cases e
      obtain ⟨x, rfl, r1⟩ := rs.one
      exact .inl ⟨_, by rw [r1.int], hl, q _ H (.refl H) (.str _)⟩
    · cases e
  · cases e
    obtain ⟨x, rfl, r1⟩ := rs.one
    exact .inr (.inl ⟨_, by rw [r1.str], q _ H (.refl H) (.str _)⟩)
  · cases e
    obtain ⟨x, rfl, r1⟩ := rs.one
    exact .inr (.inr ⟨_, by rw [r1.bl], q _ H (.refl H) (.str _)⟩)
  · cases e
theorem call_strB {X : Cx} : CallR X (.type "str") (fun xs H Q => ∃ b, xs = [.bl b] ∧ Q (.str (if b then "True" else "False")) H) := by
  intro pins s σ H xs us Q I r h
  obtain ⟨b, rfl, q⟩ := h
  cases r with
  | cons r1 rr =>
    cases rr
    cases r1
    exact PySem.P.str_of_bool ⟨.str _, H, I.tok _, ⟨_, rfl⟩, q⟩
theorem bs_abs : BlS C bAbs (fun xs H Q => ∃ i, xs = [.int i] ∧ Q (.int (if i < 0 then -i else i)) H) := by
  intro H α μ xs ds z Q S rs e q
  unfold bAbs at e
  split at e
  · cases e
    obtain ⟨x, rfl, r1⟩ := rs.one
    exact ⟨_, by rw [r1.int], q _ H (.refl H) (.int _)⟩
  · cases e
theorem RpAll.bools {K : PySem.W.Frag} {H : Hp} {M : Addr → Prop} : ∀ {vs : List V} {ds : List D} {k : Bool}, RpAll K H M vs ds → Mi.allB ds = some k → ∃ bs : List Bool, vs = bs.map V.bl ∧ bs.all id = k
  | _, _, _, .nil, e => by cases e; exact ⟨[], rfl, rfl⟩
  | _, .bool b :: ds, k, .cons r t, e => by
    unfold Mi.allB at e
    cases e1 : Mi.allB ds with
    | none => rw [e1] at e; cases e
    | some k' =>
      rw [e1] at e
      cases e
      obtain ⟨bs, rfl, h⟩ := RpAll.bools t e1
      cases r
      exact ⟨b :: bs, rfl, by rw [List.all_cons, h]; rfl⟩
  | _, .none :: ds, _, .cons r t, e => by cases e
  | _, .int _ :: ds, _, .cons r t, e => by cases e
  | _, .str _ :: ds, _, .cons r t, e => by cases e
  | _, .list _ :: ds, _, .cons r t, e => by cases e
  | _, .tuple _ :: ds, _, .cons r t, e => by cases e
  | _, .dict _ :: ds, _, .cons r t, e => by cases e
theorem bs_all : BlS C bAll (rAll C.K) := by
  intro H α μ xs ds z Q S rs e q
  unfold bAll at e
  split at e
  · rename_i l
    cases e1 : Mi.allB l with
    | none => rw [e1] at e; cases e
    | some k =>
      rw [e1] at e
      cases e
      obtain ⟨x, rfl, r0⟩ := rs.one
      obtain ⟨p1, ys, rfl, h1, r1⟩ := r0.list
      obtain ⟨bs, rfl, h⟩ := r1.bools e1
      exact ⟨p1, bs, rfl, .inl h1, by rw [h]; exact q _ H (.refl H) (.bl _)⟩
  · cases e
theorem RpAll.intsAll {K : PySem.W.Frag} {H : Hp} {M : Addr → Prop} : ∀ {vs : List V} {ds : List D} {ns : List Int}, RpAll K H M vs ds → intsOf ds = some ns → vs = ns.map V.int
  | _, _, _, .nil, e => by cases e; rfl
  | _, .int b :: ds, k, .cons r t, e => by
    unfold intsOf at e
    cases e1 : intsOf ds with
    | none => rw [e1] at e; cases e
    | some k' =>
      rw [e1] at e
      cases e
      cases r
      rw [RpAll.intsAll t e1]
      rfl
  | _, .none :: ds, _, .cons r t, e => by cases e
  | _, .bool _ :: ds, _, .cons r t, e => by cases e
  | _, .str _ :: ds, _, .cons r t, e => by cases e
  | _, .list _ :: ds, _, .cons r t, e => by cases e
  | _, .tuple _ :: ds, _, .cons r t, e => by cases e
  | _, .dict _ :: ds, _, .cons r t, e => by cases e
theorem insI_perm (x : Int) : ∀ l : List Int, (insI x l).Perm (x :: l)
  | [] => .refl _
  | y :: r => by
    unfold insI
    split
    · exact .refl _
    · exact ((insI_perm x r).cons y).trans (.swap x y r)
theorem isort_perm : ∀ l : List Int, (isort l).Perm l
  | [] => .refl _
  | x :: r => (insI_perm x (isort r)).trans ((isort_perm r).cons x)
theorem insI_sorted (x : Int) : ∀ l : List Int, l.Pairwise (· ≤ ·) → (insI x l).Pairwise (· ≤ ·)
  | [], _ => List.pairwise_singleton _ _
  | y :: r, h => by
    unfold insI
    split
    · rename_i hx
      refine List.pairwise_cons.mpr ⟨fun z hz => ?_, h⟩
      rcases List.mem_cons.mp hz with e | e
      · rw [e]; exact hx
      · exact Int.le_trans hx ((List.pairwise_cons.mp h).1 z e)
    · rename_i hx
      refine List.pairwise_cons.mpr ⟨fun z hz => ?_, insI_sorted x r (List.pairwise_cons.mp h).2⟩
      rcases List.mem_cons.mp ((insI_perm x r).mem_iff.mp hz) with e | e
      · rw [e]; omega
      · exact (List.pairwise_cons.mp h).1 z e
theorem isort_sorted : ∀ l : List Int, (isort l).Pairwise (· ≤ ·)
  | [] => .nil
  | x :: r => insI_sorted x _ (isort_sorted r)
theorem sorted_uniq : ∀ {a b : List Int}, a.Perm b → a.Pairwise (· ≤ ·) → b.Pairwise (· ≤ ·) → a = b
  | [], b, p, _, _ => (List.nil_perm.mp p).symm
  | x :: a, [], p, _, _ => absurd (List.perm_nil.mp p) (List.cons_ne_nil _ _)
  | x :: a, y :: b, p, ha, hb => by
    have e : x = y := by
      have h1 : x ∈ y :: b := p.mem_iff.mp List.mem_cons_self
      have h2 : y ∈ x :: a := p.mem_iff.mpr List.mem_cons_self
      rcases List.mem_cons.mp h1 with h1 | h1
      · exact h1
      · rcases List.mem_cons.mp h2 with h2 | h2
        · exact h2.symm
        · exact Int.le_antisymm ((List.pairwise_cons.mp ha).1 y h2) ((List.pairwise_cons.mp hb).1 x h1)
    subst e
    rw [sorted_uniq (List.perm_cons x |>.mp p) (List.pairwise_cons.mp ha).2 (List.pairwise_cons.mp hb).2]
theorem rpAll_ints {K : PySem.W.Frag} {H : Hp} {M : Addr → Prop} : ∀ ns : List Int, RpAll K H M (ns.map V.int) (ns.map PyData.int)
  | [] => .nil
  | n :: r => .cons (.int n) (rpAll_ints r)
theorem bs_sorted : BlS C bSorted (rSortedI C.K) := by
  intro H α μ xs ds z Q S rs e q
  unfold bSorted at e
  split at e
  · rename_i l
    cases e1 : intsOf l with
    | none => rw [e1] at e; cases e
    | some ns =>
      rw [e1] at e
      cases e
      obtain ⟨x, rfl, r0⟩ := rs.one
      obtain ⟨p1, ys, rfl, h1, r1⟩ := r0.list
      have hy := r1.intsAll e1
      subst hy
      refine ⟨p1, ns, rfl, .inl h1, fun ns' p hp hs np => ?_⟩
      have he : ns' = isort ns := sorted_uniq (hp.trans (isort_perm ns).symm) hs (isort_sorted ns)
      subst he
      obtain ⟨sm, rp⟩ := rp_newL S np (rpAll_ints (isort ns))
      exact q _ _ sm rp
  · cases e
theorem RpAll.ints {K : PySem.W.Frag} {H : Hp} {M : Addr → Prop} : ∀ {vs : List V} {ds : List D} {k : Int}, RpAll K H M vs ds → sumI ds = some k → ∃ ns : List Int, vs = ns.map V.int ∧ ns.sum = k
  | _, _, _, .nil, e => by cases e; exact ⟨[], rfl, rfl⟩
  | _, .int b :: ds, k, .cons r t, e => by
    unfold sumI at e
    cases e1 : sumI ds with
    | none => rw [e1] at e; cases e
    | some k' =>
      rw [e1] at e
      cases e
      obtain ⟨bs, rfl, h⟩ := RpAll.ints t e1
      cases r
      exact ⟨b :: bs, rfl, by rw [List.sum_cons, h]⟩
  | _, .none :: ds, _, .cons r t, e => by cases e
  | _, .bool _ :: ds, _, .cons r t, e => by cases e
  | _, .str _ :: ds, _, .cons r t, e => by cases e
  | _, .list _ :: ds, _, .cons r t, e => by cases e
  | _, .tuple _ :: ds, _, .cons r t, e => by cases e
  | _, .dict _ :: ds, _, .cons r t, e => by cases e
theorem bs_sum : BlS C bSum (rSum C.K) := by
  intro H α μ xs ds z Q S rs e q
  unfold bSum at e
  split at e
  · rename_i l
    cases e1 : sumI l with
    | none => rw [e1] at e; cases e
    | some k =>
      rw [e1] at e
      cases e
      obtain ⟨x, rfl, r0⟩ := rs.one
      obtain ⟨p1, ys, rfl, h1, r1⟩ := r0.list
      obtain ⟨bs, rfl, h⟩ := r1.ints e1
      exact ⟨p1, bs, rfl, .inl h1, by rw [h]; exact q _ H (.refl H) (.int _)⟩
  · cases e
theorem bs_tup : BlS C bTup (fun xs H Q => ∃ p ys, xs = [.ref p] ∧ ((SqL C.K H p ys ∧ ∀ l, H l = none → Q (.ref l) (upd H l (.tup ys))) ∨ (SqT C.K H p ys ∧ Q (.ref p) H))) := by
  intro H α μ xs ds z Q S rs e q
  unfold bTup at e
  split at e
  · cases e
    obtain ⟨x, rfl, r0⟩ := rs.one
    obtain ⟨p1, ys, rfl, h1, r1⟩ := r0.list
    refine ⟨p1, ys, rfl, .inl ⟨.inl h1, fun p np => ?_⟩⟩
    obtain ⟨sm, rp⟩ := rp_newT np r1
    exact q _ _ sm rp
  · cases e
    obtain ⟨x, rfl, r0⟩ := rs.one
    obtain ⟨p1, ys, rfl, h1, r1⟩ := r0.tuple
    exact ⟨p1, ys, rfl, .inr ⟨h1, q _ H (.refl H) (.tup h1 r1)⟩⟩
  · cases e
theorem bs_lst : BlS C bLst (fun xs H Q => ∃ p ys, xs = [.ref p] ∧ (SqL C.K H p ys ∨ SqT C.K H p ys) ∧ ∀ l, H l = none → Q (.ref l) (upd H l (.lst ys))) := by
  intro H α μ xs ds z Q S rs e q
  unfold bLst at e
  split at e
  · cases e
    obtain ⟨x, rfl, r0⟩ := rs.one
    obtain ⟨p1, ys, rfl, h1, r1⟩ := r0.list
    refine ⟨p1, ys, rfl, .inl (.inl h1), fun p np => ?_⟩
    obtain ⟨sm, rp⟩ := rp_newL S np r1
    exact q _ _ sm rp
  · cases e
    obtain ⟨x, rfl, r0⟩ := rs.one
    obtain ⟨p1, ys, rfl, h1, r1⟩ := r0.tuple
    refine ⟨p1, ys, rfl, .inr h1, fun p np => ?_⟩
    obtain ⟨sm, rp⟩ := rp_newL S np r1
    exact q _ _ sm rp
  · cases e
/-! ### isinstance -/
def tyN : Ty → String
  | .int => "int"
  | .bool => "bool"
  | .str => "str"
  | .tuple => "tuple"
  | .list => "list"
def dTy : D → String
  | .none => "NoneType"
  | .bool _ => "bool"
  | .int _ => "int"
  | .str _ => "str"
  | .list _ => "list"
  | .tuple _ => "tuple"
  | .dict _ => "dict"
theorem RpT.ty {H : Hp} {M : Addr → Prop} {v : V} {d : D} (h : RpT C.K H M v d) : TyX C.K H v (.type (dTy d)) := by
  cases d with
  | none => rw [h.none]; exact .base .non
  | bool b => rw [h.bl]; exact .base (.bl b)
  | int b => rw [h.int]; exact .base (.int b)
  | str b => rw [h.str]; exact .base (.str b)
  | list l =>
    obtain ⟨p1, ys, rfl, h1, r1⟩ := h.list
    rcases h1 with h1 | ⟨o, h1⟩
    · exact .base (.lst h1)
    · exact .base (.frz h1)
  | tuple l =>
    obtain ⟨p1, ys, rfl, h1, r1⟩ := h.tuple
    rcases h1 with (h1 | ⟨o, h1⟩) | ⟨o, its, n, h1, h2, _⟩
    · exact .base (.tup h1)
    · exact .fTuple h1
    · exact .kTuple h1 h2
  | dict l => exact h.nodict.elim
theorem kit_is (t : Ty) (d : D) : kitB (dTy d) (tyN t) = some (isTy t d) := by
  cases t <;> cases d <;> (simp only [dTy, tyN, isTy]; decide +kernel)
end
section
variable {X : Cx} {T : List (Addr × Str)} {E : XK} {j : Nat} {pos : Pos} {a b c : Expr} {f g h : EF} {es : List Expr} {r : AF}
theorem de_isi (t : Ty) {x y : Str} {p p2 : Pos} (hm : X.mg x = none) (hv : bootBuiltins x = some (.builtin "isinstance")) (hm2 : X.mg y = none) (hv2 : bootBuiltins y = some (.type (tyN t))) (ha : DE X T E a f) (hg : Gl X x := by rfl) (hg2 : Gl X y := by rfl) (hn : x ≠ "__name__" := by decide) (hn2 : y ≠ "__name__" := by decide) (hdb : (x == ("__debug__" : Str)) = false := by decide) (hdb2 : (y == ("__debug__" : Str)) = false := by decide)
    (he : starEach (a :: [.Name y p2]) X.env = (false, eval a X.env) :: starEach [.Name y p2] X.env := by rfl) (hpl : (backTo pos (starEach [.Name y p2] X.env)).any (·.1) = false := by rfl) (he2 : starEach [.Name y p2] X.env = (false, eval (.Name y p2) X.env) :: starEach [] X.env := by rfl) :
    DE X T E (.Call (.Name x p) [a, .Name y p2] [] pos) (eIsi t f) :=
  pe_imp (pe_callB call_isi hg hm hv (pa_cons ha (pa_cons (pe_bltn hg2 hm2 hv2 (v := .ty (tyN t)) rfl hn2 hdb2) pa_nil he2) he) hn hdb he hpl) fun σ H Q ⟨ρ, α, μ, S, sl, q⟩ =>
    tD_bind S sl q fun v w H1 α1 μ1 st S1 sl1 rv q1 => by
      obtain ⟨z, e, q2⟩ := PQ.ofO q1
      cases e1 : Mi.view μ1 w with
      | none => rw [e1] at e; cases e
      | some d =>
        rw [e1] at e
        cases e
        exact ⟨v, .ty (tyN t), .type (dTy d), .type (tyN t), isTy t d, rfl, .ty _, (rv.view S1 e1).ty, kit_ty (kit_is t d), PQ.bl S1 q2⟩
/-! ### defs -/
/-- a def's promise: it hands back what the mirror does -/
def spD (C : Cv) (g : GF) : Sp := fun vs H Q E => ∃ ws α μ, Stor C H α μ ∧ RpWs C H α μ vs ws ∧ PQ C E Q H α μ (g ws μ)
structure HasFn (P : Program) (w : World) (K : PySem.W.Frag) (mg : Str → Option Value) (base : Heap) (T : List (Addr × Str)) (k : Nat) (x : Str) (g : GF) : Prop where
  ex : ∃ f fd ps ds dvs dd g0, mg x = some (.ref f) ∧ PySem.W.keepIn K (.ref f) = true ∧ Binds K fd ps ds ∧ Vals dvs ds ∧ (∀ H M, RpAll K H M dvs dd) ∧ (∀ ws μ, g ws μ = g0 (ws ++ dd.map W.d) μ) ∧
    FnOk P w K mg base (L2N.CX P w) k f fd ps (spD ⟨K, mg, T⟩ g0)
theorem HasFn.mono {P : Program} {w : World} {K : PySem.W.Frag} {mg : Str → Option Value} {base : Heap} {T : List (Addr × Str)} {k k' : Nat} {x : Str} {g : GF} (h : HasFn P w K mg base T k x g) (hk : k ≤ k') : HasFn P w K mg base T k' x g := by
  obtain ⟨f, fd, ps, ds, dvs, dd, g0, h1, h2, h3, h4, h5, h6, h7⟩ := h.ex
  exact ⟨f, fd, ps, ds, dvs, dd, g0, h1, h2, h3, h4, h5, h6, h7.mono hk⟩
theorem RpAll.ws {C : Cv} {H : Hp} {α : Al} {μ : Sto} : ∀ {vs : List V} {ds : List PyData}, RpAll C.K H (Own α μ) vs ds → RpWs C H α μ vs (ds.map W.d)
  | _, _, .nil => .nil
  | _, _, .cons r t => .cons r (RpAll.ws t)
theorem RpWs.append {C : Cv} {H : Hp} {α : Al} {μ : Sto} : ∀ {vs us : List V} {ws zs : List W}, RpWs C H α μ vs ws → RpWs C H α μ us zs → RpWs C H α μ (vs ++ us) (ws ++ zs)
  | _, _, _, _, .nil, s => s
  | _, _, _, _, .cons r t, s => .cons r (RpWs.append t s)
theorem de_call {k : Nat} {x : Str} {gf : GF} {p : Pos} (ck : CK X E j) (hf : HasFn X.prog X.w X.K X.mg X.base T k x gf) (hr : DA X T E (a :: es) r) (hk : k ≤ j := by decide) (hg : Gl X x := by rfl) (hdb : (x == ("__debug__" : Str)) = false := by decide)
    (he : starEach (a :: es) X.env = (false, eval a X.env) :: starEach es X.env := by rfl) (hpl : (backTo pos (starEach es X.env)).any (·.1) = false := by rfl) : DE X T E (.Call (.Name x p) (a :: es) [] pos) (eCall gf r) := by
  obtain ⟨f, fd, ps, ds, dvs, dd, g0, h1, h2, h3, h4, h5, h6, h7⟩ := hf.ex
  refine pe_imp (pe_call h7 (ck.room.mono hk) hg h1 h2 h3 h4 ck.passes hr.pa hdb he hpl) fun σ H Q ⟨ρ, α, μ, S, sl, q⟩ => ?_
  refine hr.read (C := CvX X T) S sl q fun vs ws H1 α1 μ1 st S1 sl1 rs ln q1 => ?_
  rw [h6] at q1
  exact ⟨ws ++ dd.map W.d, α1, μ1, S1, rs.append (RpAll.ws (h5 _ _)), q1⟩
theorem de_call0 {k : Nat} {x : Str} {gf : GF} {p : Pos} (ck : CK X E j) (hf : HasFn X.prog X.w X.K X.mg X.base T k x gf) (hk : k ≤ j := by decide) (hg : Gl X x := by rfl) (hdb : (x == ("__debug__" : Str)) = false := by decide) : DE X T E (.Call (.Name x p) [] [] pos) (eCall gf aNil) := by
  obtain ⟨f, fd, ps, ds, dvs, dd, g0, h1, h2, h3, h4, h5, h6, h7⟩ := hf.ex
  refine pe_imp (pe_call0 h7 (ck.room.mono hk) hg h1 h2 h3 h4 ck.passes hdb) fun σ H Q ⟨ρ, α, μ, S, sl, q⟩ => ?_
  have q : PQ (CvX X T) E Q H α μ (gf [] μ) := q
  rw [h6] at q
  exact ⟨_, α, μ, S, RpAll.ws (h5 _ _), q⟩
/-- what is known of a def of the top: it stands there, its parameters are bound in their order -/
structure DefFact (K : PySem.W.Frag) (mg : Str → Option Value) (x : Str) (st : Stmt) (ps : List Str) : Prop where
  ex : ∃ f fd dvs kws, FunD K x x (defArgs st) (defBody st) (defScope st) dvs kws f fd ∧ mg x = some (.ref f) ∧ Binds K fd ps []
/-- .. with defaults for the last ones -/
structure DefFact1 (K : PySem.W.Frag) (mg : Str → Option Value) (x : Str) (st : Stmt) (ps : List Str) (dd : List PyData) : Prop where
  ex : ∃ f fd dvs kws ds, FunD K x x (defArgs st) (defBody st) (defScope st) dvs kws f fd ∧ mg x = some (.ref f) ∧ Binds K fd ps ds ∧ Vals dvs ds ∧ (∀ H M, RpAll K H M dvs dd)
end
end L3

set_option Elab.async false
set_option linter.all false
set_option maxRecDepth 100000
/-! Statements, loops, comprehensions, defs. -/
namespace L3
open PySem PySem.Spec PyProof.Rows L2 Mi

def QS (C : Cv) (E : XK) (D : Ends) (H : Hp) (α : Al) (μ : Sto) : RS → Prop
  | .nx ρ' μ' => ∀ σ' H' α', Step H α μ H' α' μ' → Stor C H' α' μ' → Sl C H' α' μ' σ' ρ' → D.nx σ' H'
  | .rt w μ' => ∀ v H' α', Step H α μ H' α' μ' → Stor C H' α' μ' → RpW C H' α' μ' v w → D.rt v H'
  | .bk ρ' μ' => ∀ σ' H' α', Step H α μ H' α' μ' → Stor C H' α' μ' → Sl C H' α' μ' σ' ρ' → D.bk σ' H'
  | .ct ρ' μ' => ∀ σ' H' α', Step H α μ H' α' μ' → Stor C H' α' μ' → Sl C H' α' μ' σ' ρ' → D.ct σ' H'
  | .er x μ' => ∀ cls d H' α', Step H α μ H' α' μ' → Stor C H' α' μ' → RpX C H' cls d x → E cls d H'
  | .no => False
theorem QS.step {C : Cv} {E : XK} {D : Ends} {H H1 : Hp} {α α1 : Al} {μ μ1 : Sto} {r : RS} (h : QS C E D H α μ r) (st : Step H α μ H1 α1 μ1) : QS C E D H1 α1 μ1 r := by
  cases r with
  | nx w μ' => exact fun v H' α' s S q => h v H' α' (st.trans s) S q
  | rt w μ' => exact fun v H' α' s S q => h v H' α' (st.trans s) S q
  | bk w μ' => exact fun v H' α' s S q => h v H' α' (st.trans s) S q
  | ct w μ' => exact fun v H' α' s S q => h v H' α' (st.trans s) S q
  | er x μ' => exact fun cls d H' α' s S q => h cls d H' α' (st.trans s) S q
  | no => exact h
def tS (C : Cv) (E : XK) (F : SF) : TS := fun D σ H => ∃ ρ α μ, Stor C H α μ ∧ Sl C H α μ σ ρ ∧ QS C E D H α μ (F ρ μ)
def DS (X : Cx) (T : List (Addr × Str)) (E : XK) (st : Stmt) (F : SF) : Prop := PS X st (tS (CvX X T) E F)
def DSs (X : Cx) (T : List (Addr × Str)) (E : XK) (st : List Stmt) (F : SF) : Prop := PSs X st (tS (CvX X T) E F)
section
variable {C : Cv} {E : XK} {D : Ends} {Q : VK} {H : Hp} {α : Al} {μ : Sto} {σ : L2.St} {ρ : Mi.Env} {f : EF}
theorem tD_bindS {Q' : VK} {k : W → Sto → RS} (S : Stor C H α μ) (sl : Sl C H α μ σ ρ) (h : QS C E D H α μ ((f ρ μ).bindS k))
    (cont : ∀ v w H1 α1 μ1, Step H α μ H1 α1 μ1 → Stor C H1 α1 μ1 → Sl C H1 α1 μ1 σ ρ → RpW C H1 α1 μ1 v w → QS C E D H1 α1 μ1 (k w μ1) → Q' v H1) : tD C E f σ H Q' := by
  refine ⟨ρ, α, μ, S, sl, ?_⟩
  cases e : f ρ μ with
  | ok w μ1 =>
    rw [e] at h
    exact fun v H1 α1 st S1 r => cont v w H1 α1 μ1 st S1 (sl.step st) r (QS.step (r := k w μ1) h st)
  | er x μ1 => rw [e] at h; exact h
  | no => rw [e] at h; exact (show False from h).elim
theorem QS.nx (S : Stor C H α μ) (sl : Sl C H α μ σ ρ) (h : QS C E D H α μ (.nx ρ μ)) : D.nx σ H := h σ H α (.refl _ _ _) S sl
theorem QS.rt {v : V} {w : W} (S : Stor C H α μ) (r : RpW C H α μ v w) (h : QS C E D H α μ (.rt w μ)) : D.rt v H := h v H α (.refl _ _ _) S r
theorem tS_seq {F G : SF} (h : tS C E (sSeq F G) D σ H) : tS C E F { D with nx := tS C E G D } σ H := by
  obtain ⟨ρ, α, μ, S, sl, q⟩ := h
  refine ⟨ρ, α, μ, S, sl, ?_⟩
  unfold sSeq at q
  cases e : F ρ μ with
  | nx ρ1 μ1 =>
    rw [e] at q
    exact fun σ' H' α' st S' sl' => ⟨ρ1, α', μ1, S', sl', QS.step q st⟩
  | rt w μ' => rw [e] at q; exact q
  | bk w μ' => rw [e] at q; exact q
  | ct w μ' => rw [e] at q; exact q
  | er x μ' => rw [e] at q; exact q
  | no => rw [e] at q; exact q
theorem tD_testS {Q' : VK} {k : Bool → Sto → RS} (S : Stor C H α μ) (sl : Sl C H α μ σ ρ) (h : QS C E D H α μ (RS.test (f ρ μ) k))
    (cont : ∀ b H1 α1 μ1, Step H α μ H1 α1 μ1 → Stor C H1 α1 μ1 → Sl C H1 α1 μ1 σ ρ → QS C E D H1 α1 μ1 (k b μ1) → Q' (.bl b) H1) : tD C E f σ H Q' := by
  refine tD_bindS (D := D) S sl h fun v w H1 α1 μ1 st S1 sl1 r q => ?_
  cases w with
  | d d =>
    cases d with
    | bool b => cases r; exact cont b H1 α1 μ1 st S1 sl1 q
    | none => exact (show False from q).elim
    | int i => exact (show False from q).elim
    | str i => exact (show False from q).elim
    | list i => exact (show False from q).elim
    | tuple i => exact (show False from q).elim
    | dict i => exact (show False from q).elim
  | m k => exact (show False from q).elim
  | f k => exact (show False from q).elim
  | x k => exact (show False from q).elim
/-! ### one's own list is written, or given away -/
theorem own_set {k : Nat} {o : Option Cell} {a : Addr} (h : Own α (μ.set k o) a) : Own α μ a ∨ (∃ c, o = some c ∧ α.own[k]? = some a) := by
  rcases h with ⟨j, c, h1, h2⟩ | h
  · by_cases e : k = j
    · subst e
      rw [List.getElem?_set] at h2
      simp only [if_true] at h2
      split at h2
      · exact .inr ⟨c, by simpa using h2, h1⟩
      · cases h2
    · rw [List.getElem?_set_ne e] at h2
      exact .inl (.inl ⟨j, c, h1, h2⟩)
  · exact .inl (.inr h)
theorem own_set' {k : Nat} {c c' : Cell} {a : Addr} (hk : μ[k]? = some (some c)) : Own α (μ.set k (some c')) a ↔ Own α μ a := by
  constructor
  · intro h
    rcases own_set h with h | ⟨_, _, h⟩
    · exact h
    · exact .inl ⟨k, c, h, hk⟩
  · rintro (⟨j, d, h1, h2⟩ | h)
    · by_cases e : k = j
      · subst e
        exact .inl ⟨k, c', h1, by rw [List.getElem?_set_self (List.getElem?_eq_some_iff.mp hk).1]⟩
      · exact .inl ⟨j, d, h1, by rw [List.getElem?_set_ne e]; exact h2⟩
    · exact .inr h
theorem nodup_at : ∀ {l : List Addr} {k j : Nat} {a : Addr}, l.Nodup → l[k]? = some a → l[j]? = some a → k = j
  | [], _, _, _, _, h, _ => by simp at h
  | x :: l, 0, 0, a, _, _, _ => rfl
  | x :: l, 0, j + 1, a, n, h1, h2 => by
    have e : x = a := by simpa using h1
    subst e
    exact absurd (List.mem_of_getElem? (by simpa using h2)) (List.nodup_cons.mp n).1
  | x :: l, k + 1, 0, a, n, h1, h2 => by
    have e : x = a := by simpa using h2
    subst e
    exact absurd (List.mem_of_getElem? (by simpa using h1)) (List.nodup_cons.mp n).1
  | x :: l, k + 1, j + 1, a, n, h1, h2 => congrArg (· + 1) (nodup_at (List.nodup_cons.mp n).2 (by simpa using h1) (by simpa using h2))
theorem Stor.uniq (S : Stor C H α μ) {k j : Nat} {a : Addr} (h1 : α.own[k]? = some a) (h2 : α.own[j]? = some a) : k = j := by
  exact nodup_at (List.nodup_append.mp S.nd).1 h1 h2
theorem Stor.nohid (S : Stor C H α μ) {k : Nat} {a : Addr} (h1 : α.own[k]? = some a) : a ∉ α.hid := fun z =>
  (List.nodup_append.mp S.nd).2.2 a (List.mem_of_getElem? h1) a z rfl
/-- a changing list is written -/
theorem own_write (S : Stor C H α μ) {k : Nat} {l l' : List PyData} {a : Addr} {xs' : List V} (hk : μ[k]? = some (some (.lst l))) (ha : α.own[k]? = some a) (r : RpAll C.K H (Own α μ) xs' l') :
    Step H α μ (upd H a (.lst xs')) α (μ.set k (some (.lst l'))) ∧ Stor C (upd H a (.lst xs')) α (μ.set k (some (.lst l'))) := by
  obtain ⟨a', ha', xs, hx, rx⟩ := S.cell k _ hk
  rw [ha] at ha'; cases ha'
  have oa : Own α μ a := .inl ⟨k, _, ha, hk⟩
  have st : Step H α μ (upd H a (.lst xs')) α (μ.set k (some (.lst l'))) := by
    refine ⟨⟨fun b o h n _ => ⟨?_, fun z => n ((own_set' hk).mp z)⟩, fun b ys h => ?_, fun b o u h => ?_⟩, fun _ _ h => h, rfl, fun b hb => ?_⟩
    · rw [upd_ne (fun e => n (by rw [e]; exact oa))]; exact h
    · rw [upd_ne (fun e => by rw [e, hx] at h; cases h)]; exact h
    · rw [upd_ne (fun e => by rw [e, hx] at h; cases h)]; exact h
    · rw [upd_ne (fun e => S.nohid ha (by rw [← e]; exact hb))]
  refine ⟨st, by rw [List.length_set]; exact S.len, S.nd, fun b hb => ?_, fun j c h => ?_, ?_⟩
  · by_cases e : b = a
    · rw [e]; exact ⟨_, upd_same, fun _ z => by cases z⟩
    · rw [upd_ne e]; exact S.there b hb
  · by_cases e : k = j
    · subst e
      rw [List.getElem?_set_self (List.getElem?_eq_some_iff.mp hk).1] at h
      cases h
      exact ⟨a, ha, xs', upd_same, r.ext st.ext⟩
    · rw [List.getElem?_set_ne e] at h
      obtain ⟨b, h1, h2⟩ := S.cell j c h
      have ne : b ≠ a := fun z => e (S.uniq ha (by rw [← z]; exact h1))
      refine ⟨b, h1, ?_⟩
      cases c with
      | lst l => obtain ⟨ys, e1, e2⟩ := h2; exact ⟨ys, by rw [upd_ne ne]; exact e1, e2.ext st.ext⟩
      | ins c fs => obtain ⟨A, dx, gs, e1, e2, e3, e4⟩ := h2; exact ⟨A, dx, gs, e1, by rw [upd_ne ne]; exact e2, e3, e4.ext st.ext⟩
  · intro p hp
    obtain ⟨ps, h1, h2, h3⟩ := S.tabs p hp
    have ne : p.1 ≠ a := fun e => by rw [e, hx] at h1; cases h1
    refine ⟨ps, by rw [upd_ne ne]; exact h1, h2, fun pos cv hc => ?_⟩
    obtain ⟨c, e1, e2⟩ := h3 pos cv hc
    refine ⟨c, e1, ?_⟩
    rw [upd_ne (fun e => by rw [e, hx] at e2; cases e2)]
    exact e2
/-- a changing list becomes plain data -/
theorem own_give (S : Stor C H α μ) {k : Nat} {l : List PyData} {a : Addr} (hk : μ[k]? = some (some (.lst l))) (ha : α.own[k]? = some a) :
    Step H α μ H α (μ.set k none) ∧ Stor C H α (μ.set k none) ∧ Rp C.K H (Own α (μ.set k none)) (.ref a) (.list l) := by
  obtain ⟨a', ha', xs, hx, rx⟩ := S.cell k _ hk
  rw [ha] at ha'; cases ha'
  have st : Step H α μ H α (μ.set k none) := by
    refine ⟨⟨fun b o h n _ => ⟨h, fun z => ?_⟩, fun b ys h => h, fun b o u h => h⟩, fun _ _ h => h, rfl, fun b hb => rfl⟩
    rcases own_set z with z | ⟨c, z, _⟩
    · exact n z
    · cases z
  refine ⟨st, ⟨by rw [List.length_set]; exact S.len, S.nd, S.there, fun j c h => ?_, S.tabs⟩, .lst (.inl hx) (fun z => ?_) (rx.ext st.ext)⟩
  · by_cases e : k = j
    · subst e
      rw [List.getElem?_set_self (List.getElem?_eq_some_iff.mp hk).1] at h
      cases h
    · rw [List.getElem?_set_ne e] at h
      obtain ⟨b, h1, h2⟩ := S.cell j c h
      refine ⟨b, h1, ?_⟩
      cases c with
      | lst l => obtain ⟨ys, e1, e2⟩ := h2; exact ⟨ys, e1, e2.ext st.ext⟩
      | ins c fs => obtain ⟨A, dx, gs, e1, e2, e3, e4⟩ := h2; exact ⟨A, dx, gs, e1, e2, e3, e4.ext st.ext⟩
  · rcases z with ⟨j, c, h1, h2⟩ | z
    · have e := S.uniq ha h1
      subst e
      rw [List.getElem?_set_self (List.getElem?_eq_some_iff.mp hk).1] at h2
      cases h2
    · exact S.nohid ha z
end

section
variable {X : Cx} {T : List (Addr × Str)} {E : XK} {j : Nat} {pos : Pos} {a b c : Expr} {f g h : EF} {st : Stmt} {rest body : List Stmt} {F G : SF}
theorem dss_nil : DSs X T E [] sNil := pss_imp pss_nil fun D σ H ⟨ρ, α, μ, S, sl, q⟩ => QS.nx S sl q
theorem dss_cons (h1 : DS X T E st F) (h2 : DSs X T E rest G) : DSs X T E (st :: rest) (sSeq F G) := pss_imp (pss_cons h1 h2) fun D σ H q => tS_seq q
theorem dss_one (h1 : DS X T E st F) : DSs X T E [st] F := pss_one h1
theorem ds_pass : DS X T E (.Pass pos) sNil := ps_imp ps_pass fun D σ H ⟨ρ, α, μ, S, sl, q⟩ => QS.nx S sl q
theorem ds_break : DS X T E (.Break pos) sBreak := ps_imp ps_break fun D σ H ⟨ρ, α, μ, S, sl, q⟩ => q σ H α (.refl _ _ _) S sl
theorem ds_cont : DS X T E (.Continue pos) sCont := ps_imp ps_continue fun D σ H ⟨ρ, α, μ, S, sl, q⟩ => q σ H α (.refl _ _ _) S sl
theorem ds_expr (ha : DE X T E a f) (hs : swapsWith a none pos.line X.env = pure false := by rfl) : DS X T E (.Expr a pos) (sDrop f) :=
  ps_imp (ps_expr ha hs) fun D σ H ⟨ρ, α, μ, S, sl, q⟩ => tD_bindS S sl q fun v w H1 α1 μ1 st S1 sl1 r q1 => QS.nx S1 sl1 q1
theorem ds_ret (ha : DE X T E a f) : DS X T E (.Return (some a) pos) (sRet f) :=
  ps_imp (ps_ret ha) fun D σ H ⟨ρ, α, μ, S, sl, q⟩ => tD_bindS S sl q fun v w H1 α1 μ1 st S1 sl1 r q1 => QS.rt S1 r q1
theorem ds_retN : DS X T E (.Return none pos) (sRet eNon) :=
  ps_imp ps_retN fun D σ H ⟨ρ, α, μ, S, sl, q⟩ => QS.rt (w := .d .none) S .non q
theorem ds_retF (ha : DE X T E a f) : DS X T E (.Return (some a) pos) (sRetF f) :=
  ps_imp (ps_ret ha) fun D σ H ⟨ρ, α, μ, S, sl, q⟩ => tD_bindS S sl q fun v w H1 α1 μ1 st S1 sl1 r q1 => by
    cases w with
    | d d => exact QS.rt S1 r q1
    | f x => exact (show False from q1).elim
    | x k => exact (show False from q1).elim
    | m k =>
      obtain ⟨a, ha, rfl⟩ := r
      cases e : mlist μ1 k with
      | none => simp [Mi.view, e] at q1; exact (show False from q1).elim
      | some l =>
        simp [Mi.view, e] at q1
        obtain ⟨st2, S2, r2⟩ := own_give S1 (mlist_at e) ha
        exact q1 _ _ _ st2 S2 r2
theorem ds_set (i : Nat) {x : Str} {p' : Pos} (ck : CK X E j) (ha : DE X T E a f) (hi : X.N[i]? = some x := by rfl) (hx : Loc X.env.scope x := by first | exact Or.inl rfl | exact Or.inr rfl) (hs : swapsWith a (some (.Name x p')) pos.line X.env = pure false := by rfl)
    (hf : X.fn x = true ∨ X.env.scope.names.lookup x = some .local := by first | exact Or.inl rfl | exact Or.inr rfl) : DS X T E (.Assign [.Name x p'] a pos) (sAsg i f) :=
  ps_imp (ps_set ck.nd hi hx ha hs hf) fun D σ H ⟨ρ, α, μ, S, sl, q⟩ => tD_bindS S sl q fun v w H1 α1 μ1 st S1 sl1 r q1 => QS.nx S1 (sl1.set r i) q1
theorem ds_setN (i : Nat) {x : Str} {p' : Pos} (nd : X.N.Nodup) (ha : DE X T E a f) (hi : X.N[i]? = some x := by rfl) (hx : Loc X.env.scope x := by first | exact Or.inl rfl | exact Or.inr rfl) (hs : swapsWith a (some (.Name x p')) pos.line X.env = pure false := by rfl)
    (hf : X.fn x = true ∨ X.env.scope.names.lookup x = some .local := by first | exact Or.inl rfl | exact Or.inr rfl) : DS X T E (.Assign [.Name x p'] a pos) (sAsg i f) :=
  ps_imp (ps_set nd hi hx ha hs hf) fun D σ H ⟨ρ, α, μ, S, sl, q⟩ => tD_bindS S sl q fun v w H1 α1 μ1 st S1 sl1 r q1 => QS.nx S1 (sl1.set r i) q1
theorem ds_par (i k : Nat) {x y : Str} {px py pt : Pos} {kt k2 pt2} (ck : CK X E j) (ha : DE X T E a f) (hb : DE X T E b g) (hi : X.N[i]? = some x := by rfl) (hj : X.N[k]? = some y := by rfl) (hij : i ≠ k := by decide) (hx : X.env.scope.names.lookup x = some .local := by rfl) (hy : X.env.scope.names.lookup y = some .local := by rfl)
    (hw : swappedStores [.Tuple [.Name x px, .Name y py] kt pt] (.Tuple [a, b] k2 pt2) X.env = pure (some [x, y]) := by rfl)
    (hs : swapsWithSole [.Tuple [.Name x px, .Name y py] kt pt] (.Tuple [a, b] k2 pt2) pos.line X.env = pure false := by rfl)
    (hs1 : starEach [a, b] X.env = (false, eval a X.env) :: starEach [b] X.env := by rfl) (hs2 : starEach [b] X.env = (false, eval b X.env) :: starEach [] X.env := by rfl) :
    DS X T E (.Assign [.Tuple [.Name x px, .Name y py] kt pt] (.Tuple [a, b] k2 pt2) pos) (sPar i k f g) :=
  ps_imp (ps_par ck.calm ck.nd hi hj hij hx hy (pa_cons ha (pa_cons hb pa_nil hs2) hs1) hw hs) fun D σ H ⟨ρ, α, μ, S, sl, q⟩ => tD_bindS S sl q fun v w H1 α1 μ1 st S1 sl1 r q1 => tD_bindS S1 sl1 q1 fun v2 w2 H2 α2 μ2 st2 S2 sl2 r2 q2 =>
    ⟨v, v2, rfl, QS.nx S2 ((sl2.set (r.step st2) i).set r2 k) q2⟩
theorem ds_if (hc : DT X T E c f) (h1 : DSs X T E body F) (h2 : DSs X T E rest G) : DS X T E (.If c body rest pos) (sIf f F G) :=
  ps_imp (ps_if hc h1 h2) fun D σ H ⟨ρ, α, μ, S, sl, q⟩ => tD_testS S sl q fun k H1 α1 μ1 st S1 sl1 q1 => ⟨k, rfl, by
    cases k with
    | true => rw [if_pos rfl] at q1 ⊢; exact ⟨ρ, α1, μ1, S1, sl1, q1⟩
    | false => rw [if_neg Bool.false_ne_true] at q1 ⊢; exact ⟨ρ, α1, μ1, S1, sl1, q1⟩⟩
/-! ### targets -/
/-- only these slots are otherwise -/
def Only (ks : List Nat) (σ σ1 : L2.St) : Prop := σ1.length = σ.length ∧ ∀ k, k ∉ ks → σ1[k]? = σ[k]?
theorem wipe_at (σ : L2.St) (k : Nat) : ∀ vs : List Nat, (L2.wipe σ vs)[k]? = if k ∈ vs then (σ[k]?).map fun _ => none else σ[k]?
  | [] => by simp [L2.wipe]
  | i :: r => by
    have ih := wipe_at σ k r
    show ((L2.wipe σ r).set i none)[k]? = _
    by_cases e : i = k
    · subst e
      rw [List.getElem?_set]
      simp only [if_true, List.mem_cons, true_or]
      split
      · rename_i h
        rw [L2.wipe_length] at h
        rw [List.getElem?_eq_getElem h]
        rfl
      · rename_i h
        rw [L2.wipe_length] at h
        rw [List.getElem?_eq_none (by omega)]
        rfl
    · rw [List.getElem?_set_ne e, ih]
      have : (k ∈ i :: r) ↔ k ∈ r := by
        rw [List.mem_cons]
        exact ⟨fun h => h.elim (fun z => absurd z.symm e) id, .inr⟩
      simp only [this]
theorem Only.wipe {ks vs : List Nat} {σ σ1 : L2.St} (h : Only ks σ σ1) (hs : ∀ k ∈ ks, k ∈ vs) : L2.wipe σ1 vs = L2.wipe σ vs := by
  refine List.ext_getElem? fun k => ?_
  rw [wipe_at, wipe_at]
  by_cases hk : k ∈ vs
  · rw [if_pos hk, if_pos hk]
    have l1 := h.1
    by_cases hl : k < σ.length
    · rw [List.getElem?_eq_getElem (show k < σ1.length by omega), List.getElem?_eq_getElem hl]
      rfl
    · rw [List.getElem?_eq_none (show σ1.length ≤ k by omega), List.getElem?_eq_none (show σ.length ≤ k by omega)]
  · rw [if_neg hk, if_neg hk]
    exact h.2 k fun z => hk (hs k z)
def tG (C : Cv) (t : TF) (ks : List Nat) : TG := fun v σ H Q => ∃ ρ α μ d ρ1, Stor C H α μ ∧ Sl C H α μ σ ρ ∧ Rp C.K H (Own α μ) v d ∧ t d ρ = some ρ1 ∧ ∀ σ1, Only ks σ σ1 → Sl C H α μ σ1 ρ1 → Q σ1 H
def DG (X : Cx) (T : List (Addr × Str)) (tg : Expr) (t : TF) (ks : List Nat) : Prop := PG X tg (tG (CvX X T) t ks)
theorem pg_imp {tg : Expr} {t t' : TG} (h : PG X tg t) (i : ∀ v σ H Q, t' v σ H Q → t v σ H Q) : PG X tg t' := ⟨fun pins s σ H v u Q I r q => h.run pins s σ H v u Q I r (i _ _ _ _ q)⟩
theorem pgs_imp {tg : List Expr} {t t' : TGs} (h : PGs X tg t) (i : ∀ v σ H Q, t' v σ H Q → t v σ H Q) : PGs X tg t' := ⟨fun pins s σ H v u Q I r q => h.run pins s σ H v u Q I r (i _ _ _ _ q)⟩
theorem dg_name (i : Nat) {x : Str} (nd : X.N.Nodup) (hi : X.N[i]? = some x := by rfl) (hx : Loc X.env.scope x := by first | exact Or.inl rfl | exact Or.inr rfl) (hf : X.fn x = true ∨ X.env.scope.names.lookup x = some .local := by first | exact Or.inl rfl | exact Or.inr rfl) : DG X T (.Name x pos) (tName i) [i] :=
  pg_imp (pg_name nd hi hx hf) fun v σ H Q ⟨ρ, α, μ, d, ρ1, S, sl, r, e, q⟩ => by
    cases e
    exact q _ ⟨by simp, fun k hk => List.getElem?_set_ne fun e => hk (by simp [e])⟩ (sl.set (w := .d d) r i)
structure DGs (X : Cx) (T : List (Addr × Str)) (es : List Expr) (ts : List TF) (ks : List Nat) : Prop where
  pgs : PGs X es (fun vs σ H Q => ∃ ρ α μ ds ρ1, Stor (CvX X T) H α μ ∧ Sl (CvX X T) H α μ σ ρ ∧ RpAll X.K H (Own α μ) vs ds ∧ tTups ts ds ρ = some ρ1 ∧ ∀ σ1, Only ks σ σ1 → Sl (CvX X T) H α μ σ1 ρ1 → Q σ1 H)
  len : es.length = ts.length
theorem dgs_nil : DGs X T [] [] [] := by
  refine ⟨pgs_imp pgs_nil fun v σ H Q ⟨ρ, α, μ, ds, ρ1, S, sl, r, e, q⟩ => ?_, rfl⟩
  cases r with
  | nil => cases e; exact ⟨rfl, q _ ⟨rfl, fun _ _ => rfl⟩ sl⟩
  | cons r t => cases e
theorem Only.trans {ks ls : List Nat} {σ σ1 σ2 : L2.St} (a : Only ks σ σ1) (b : Only ls σ1 σ2) : Only (ks ++ ls) σ σ2 :=
  ⟨b.1.trans a.1, fun k hk => (b.2 k fun z => hk (List.mem_append_right _ z)).trans (a.2 k fun z => hk (List.mem_append_left _ z))⟩
theorem dgs_cons {t : TF} {ts : List TF} {es : List Expr} {ks ls : List Nat} (h1 : DG X T a t ks) (h2 : DGs X T es ts ls) (hs : (assignEach (a :: es) X.env).map (·.2) = assign a X.env :: (assignEach es X.env).map (·.2) := by rfl) : DGs X T (a :: es) (t :: ts) (ks ++ ls) := by
  refine ⟨pgs_imp (pgs_cons h1 h2.pgs hs) fun v σ H Q ⟨ρ, α, μ, ds, ρ1, S, sl, r, e, q⟩ => ?_, congrArg (· + 1) h2.len⟩
  cases r with
  | nil => cases e
  | @cons v' vs' d ds r rr =>
    unfold tTups at e
    cases e1 : t d ρ with
    | none => rw [e1] at e; cases e
    | some ρ2 =>
      rw [e1] at e
      exact ⟨_, _, rfl, ρ, α, μ, d, ρ2, S, sl, r, e1, fun σ1 o1 sl1 => ⟨ρ2, α, μ, ds, ρ1, S, sl1, rr, e, fun σ2 o2 sl2 => q σ2 (o1.trans o2) sl2⟩⟩
theorem tTups_len : ∀ {ts : List TF} {ds : List PyData} {ρ ρ1 : Mi.Env}, tTups ts ds ρ = some ρ1 → ts.length = ds.length
  | [], [], _, _, _ => rfl
  | [], _ :: _, _, _, e => by cases e
  | _ :: _, [], _, _, e => by cases e
  | t :: ts, d :: ds, ρ, ρ1, e => by
    unfold tTups at e
    cases e1 : t d ρ with
    | none => rw [e1] at e; cases e
    | some ρ2 => rw [e1] at e; exact congrArg (· + 1) (tTups_len e)
theorem dg_tup {ts : List TF} {es : List Expr} {k : Nat} {ks : List Nat} (hc : X.calm = true) (h : DGs X T es ts ks) (hn : (assignEach es X.env).length = es.length := by rfl) (hst : (assignEach es X.env).findIdx? (·.1) = none := by rfl) : DG X T (.Tuple es k pos) (Mi.tTup ts) ks :=
  pg_imp (pg_tup hc h.pgs hn hst) fun v σ H Q ⟨ρ, α, μ, d, ρ1, S, sl, r, e, q⟩ => by
    unfold Mi.tTup at e
    split at e
    · rename_i ds
      obtain ⟨p1, ys, rfl, h1, r1⟩ := RpT.tuple (.inl r)
      exact ⟨p1, ys, rfl, h1, by rw [r1.length, h.len, tTups_len e], ρ, α, μ, ds, ρ1, S, sl, r1, e, q⟩
    · cases e
theorem dg_unl {ts : List TF} {es : List Expr} {k : Nat} {ks : List Nat} (hc : X.calm = true) (h : DGs X T es ts ks) (hn : (assignEach es X.env).length = es.length := by rfl) (hst : (assignEach es X.env).findIdx? (·.1) = none := by rfl) : DG X T (.Tuple es k pos) (Mi.tUnl ts) ks :=
  pg_imp (pg_unl hc h.pgs hn hst) fun v σ H Q ⟨ρ, α, μ, d, ρ1, S, sl, r, e, q⟩ => by
    unfold Mi.tUnl at e
    split at e
    · rename_i ds
      obtain ⟨p1, ys, rfl, h1, r1⟩ := RpT.list (.inl r)
      exact ⟨p1, ys, rfl, .inl h1, by rw [r1.length, h.len, tTups_len e], ρ, α, μ, ds, ρ1, S, sl, r1, e, q⟩
    · cases e
theorem ds_tgt {tg : Expr} {t : TF} {ks : List Nat} (ha : DE X T E a f) (hg : DG X T tg t ks) (hs : swapsWithSole [tg] a pos.line X.env = pure false := by rfl) (hw : swappedStores [tg] a X.env = pure none := by rfl)
    (h1 : (assignEach [tg] X.env).map (·.2) = [assign tg X.env] := by rfl) : DS X T E (.Assign [tg] a pos) (sTgt t f) :=
  ps_imp (ps_asg ha hg hs hw h1) fun D σ H ⟨ρ, α, μ, S, sl, q⟩ => tD_bindS S sl q fun v w H1 α1 μ1 st S1 sl1 r q1 => by
    cases w with
    | d d =>
      dsimp only at q1
      split at q1
      · rename_i ρ1 e
        exact ⟨ρ, α1, μ1, d, ρ1, S1, sl1, r, e, fun σ1 _ sl2 => QS.nx S1 sl2 q1⟩
      · exact (show False from q1).elim
    | m k => exact (show False from q1).elim
    | f k => exact (show False from q1).elim
    | x k => exact (show False from q1).elim
/-! ### lists that change -/
theorem de_app {p' : Pos} (ha : DE X T E a f) (hb : DE X T E b g) (hbase : attributeBase a "append" X.env (eval a X.env) = eval a X.env := by rfl)
    (hfew : ((backTo pos (starEach [b] X.env)).all (fun x => !x.1) && (backToKw pos (keywordEach [] X.env)).all (fun x => x.1.isSome) && decide ([b].length + ([] : List Keyword).length + (if ([] : List Keyword).isEmpty then 0 else 1) < 30)) = true := by rfl)
    (hline : (p'.endLine == pos.line) = true := by rfl) (hs : starEach [b] X.env = (false, eval b X.env) :: starEach [] X.env := by rfl) (hpl : (backTo pos (starEach [] X.env)).any (·.1) = false := by rfl) :
    DE X T E (.Call (.Attribute a "append" p') [b] [] pos) (eApp f g) :=
  pe_imp (pe_bm PySem.F.plainAttrs_list PySem.F.slot_list_append PySem.F.type_list_append mt_append ha (pa_cons hb pa_nil hs) hbase hfew hline hs hpl) fun σ H Q ⟨ρ, α, μ, S, sl, q⟩ =>
    tD_bind S sl q fun v w H1 α1 μ1 st S1 sl1 r q1 => by
      cases w with
      | d d => exact (show False from q1).elim
      | f k => exact (show False from q1).elim
      | x k => exact (show False from q1).elim
      | m k =>
        dsimp only at q1
        split at q1
        · rename_i l0 e0
          obtain ⟨p1, hp, rfl⟩ := r
          obtain ⟨p1', hp', xs0, hx0, _⟩ := S1.cell k _ (mlist_at e0)
          rw [hp] at hp'; cases hp'
          refine ⟨.inl ⟨rfl, xs0, .inl (.inl hx0)⟩, ?_⟩
          refine tD_bind S1 sl1 q1 fun v2 w2 H2 α2 μ2 st2 S2 sl2 r2 q2 => ?_
          split at q2
          · rename_i d l e1
            split at q2
            · rename_i hl
              have hp2 := st2.pre _ _ hp
              obtain ⟨p2, hp', xs, hx, rx⟩ := S2.cell k _ (mlist_at e1)
              rw [hp2] at hp'; cases hp'
              obtain ⟨st3, S3⟩ := own_write S2 (mlist_at e1) hp2 (rx.append (.cons r2 .nil))
              exact ⟨p1, xs, v2, rfl, rfl, hx, by rw [rx.length]; exact Nat.lt_of_lt_of_le hl (by decide), q2 .non _ α2 st3 S3 .non⟩
            · exact (show False from q2).elim
          · exact (show False from q2).elim
        · exact (show False from q1).elim
/-- o[i] = e -/
theorem ds_sub {p' : Pos} (hv : DE X T E c h) (ho : DE X T E a f) (hi : DE X T E b g) (hs : swapsWithSole [.Subscript a b p'] c pos.line X.env = pure false := by rfl) (hw : swappedStores [.Subscript a b p'] c X.env = pure none := by rfl)
    (h1 : (assignEach [.Subscript a b p'] X.env).map (·.2) = [assign (.Subscript a b p') X.env] := by rfl)
    (ha : ∀ v, assign (.Subscript a b p') X.env v = (do
      let ov ← holding [v] (eval a X.env)
      let iv ← holding [v, ov] (eval b X.env)
      standAt p'
      holding [v, ov, iv] (setItem ov iv v)
      release [v, ov, iv] []) := by intro _; rfl) : DS X T E (.Assign [.Subscript a b p'] c pos) (sSub f g h) :=
  ps_imp (ps_asg hv (pg_sub ho hi set_list ha) hs hw h1) fun D σ H ⟨ρ, α, μ, S, sl, q⟩ => tD_bindS S sl q fun v w H1 α1 μ1 st1 S1 sl1 r1 q1 =>
    tD_bindS S1 sl1 q1 fun v2 w2 H2 α2 μ2 st2 S2 sl2 r2 q2 => tD_bindS S2 sl2 q2 fun v3 w3 H3 α3 μ3 st3 S3 sl3 r3 q3 => by
      split at q3
      · rename_i d k n
        split at q3
        · rename_i l e1
          split at q3
          · rename_i p e2
            obtain ⟨p1, hp, rfl⟩ := r2
            have hp3 := st3.pre _ _ hp
            obtain ⟨p2, hp', xs, hx, rx⟩ := S3.cell k _ (mlist_at e1)
            rw [hp3] at hp'; cases hp'
            have hn : v3 = .int n := RpT.int (.inl r3)
            subst hn
            obtain ⟨st4, S4⟩ := own_write S3 (mlist_at e1) hp3 (rx.set ((r1.step st2).step st3) p)
            refine ⟨p1, xs, n, p, rfl, rfl, hx, ?_, q3 σ _ α3 st4 S4 (sl3.step st4)⟩
            rw [rx.length]
            exact e2
          · exact (show False from q3).elim
        · exact (show False from q3).elim
      · exact (show False from q3).elim
end
end L3

set_option Elab.async false
set_option linter.all false
set_option maxRecDepth 100000
/-! What is walked; for, while, comprehensions. -/
namespace L3
open PySem PySem.Spec PyProof.Rows L2 Mi

/-- the iterator hands out these things, whatever comes -/
def Yields (C : Cv) (J : It) (l : List PyData) (H : Hp) (M : Addr → Prop) : Prop := ∀ i H2 M2, Ext H M H2 M2 → (∀ a, H2 a = none → ¬ M2 a) →
  (∀ d, l[i]? = some d → J.go i H2 ∧ ∀ x H', J.yld i H2 x H' → Same H2 H' ∧ Rp C.K H' M2 x d) ∧ (l.length ≤ i → J.stop i H2)
def tI (C : Cv) (E : XK) (it : IF) : TI := fun σ H R => ∃ ρ α μ, Stor C H α μ ∧ Sl C H α μ σ ρ ∧ (match it ρ μ with
  | .ok l μ1 => ∀ J H1 α1, Step H α μ H1 α1 μ1 → Stor C H1 α1 μ1 → l.length ≤ sizeLine → Yields C J l H1 (Own α1 μ1) → R J H1
  | .er x μ1 => ∀ cls d H1 α1, Step H α μ H1 α1 μ1 → Stor C H1 α1 μ1 → RpX C H1 cls d x → E cls d H1
  | .no => False)
def DI (X : Cx) (T : List (Addr × Str)) (E : XK) (tg e : Expr) (it : IF) : Prop := PI X tg e (tI (CvX X T) E it)
theorem pi_imp {X : Cx} {tg e : Expr} {t t' : TI} (h : PI X tg e t) (i : ∀ σ H Q, t' σ H Q → t σ H Q) : PI X tg e t' := ⟨fun pins s σ H Q I q => h.run pins s σ H Q I (i _ _ _ q)⟩
theorem pi_impI {X : Cx} {tg e : Expr} {t t' : TI} (h : PI X tg e t) (i : ∀ pins s σ H Q, Inv X pins σ H s → t' σ H Q → t σ H Q) : PI X tg e t' := ⟨fun pins s σ H Q I q => h.run pins s σ H Q I (i _ _ _ _ _ I q)⟩
section
variable {C : Cv} {E : XK} {H : Hp} {α : Al} {μ : Sto} {σ : L2.St} {ρ : Mi.Env} {f g : EF}
theorem tD_bindI {Q' : VK} {k : W → Sto → R (List PyData)} {R' : It → Hp → Prop} (S : Stor C H α μ) (sl : Sl C H α μ σ ρ) (h : match (f ρ μ).bind k with
    | .ok l μ1 => ∀ J H1 α1, Step H α μ H1 α1 μ1 → Stor C H1 α1 μ1 → l.length ≤ sizeLine → Yields C J l H1 (Own α1 μ1) → R' J H1
    | .er x μ1 => ∀ cls d H1 α1, Step H α μ H1 α1 μ1 → Stor C H1 α1 μ1 → RpX C H1 cls d x → E cls d H1
    | .no => False)
    (cont : ∀ v w H1 α1 μ1, Step H α μ H1 α1 μ1 → Stor C H1 α1 μ1 → Sl C H1 α1 μ1 σ ρ → RpW C H1 α1 μ1 v w → (match k w μ1 with
    | .ok l μ2 => ∀ J H2 α2, Step H1 α1 μ1 H2 α2 μ2 → Stor C H2 α2 μ2 → l.length ≤ sizeLine → Yields C J l H2 (Own α2 μ2) → R' J H2
    | .er x μ2 => ∀ cls d H2 α2, Step H1 α1 μ1 H2 α2 μ2 → Stor C H2 α2 μ2 → RpX C H2 cls d x → E cls d H2
    | .no => False) → Q' v H1) : tD C E f σ H Q' := by
  refine ⟨ρ, α, μ, S, sl, ?_⟩
  cases e : f ρ μ with
  | ok w μ1 =>
    rw [e, Mi.R.bind_ok] at h
    intro v H1 α1 st S1 r
    refine cont v w H1 α1 μ1 st S1 (sl.step st) r ?_
    cases e2 : k w μ1 with
    | ok l μ2 => rw [e2] at h; exact fun J H2 α2 s S2 z y => h J H2 α2 (st.trans s) S2 z y
    | er x μ2 => rw [e2] at h; exact fun cls d H2 α2 s S2 z => h cls d H2 α2 (st.trans s) S2 z
    | no => rw [e2] at h; exact h
  | er x μ1 => rw [e] at h; exact h
  | no => rw [e] at h; exact h.elim
theorem yields_list {M : Addr → Prop} {a : Addr} {xs : List V} {ds : List PyData} (hx : Rd H a (.lst xs)) (n : ¬ M a) (r : RpAll C.K H M xs ds) : Yields C (Itl C.K a) ds H M := by
  intro i H2 M2 st _
  have h2 : SqL C.K H2 a xs := .inl (st.rd hx n).1
  have r2 := r.ext st
  refine ⟨fun d e => ?_, fun h => ⟨xs, h2, by rw [r2.length]; exact h⟩⟩
  obtain ⟨v, h3, h4⟩ := r2.get e
  refine ⟨⟨xs, v, h2, h3⟩, fun x H' y => ?_⟩
  obtain ⟨e', y⟩ := y
  subst e'
  have e2 := y xs h2
  rw [h3] at e2; cases e2
  exact ⟨.refl _, h4⟩
theorem yields_tup {M : Addr → Prop} {a : Addr} {xs : List V} {ds : List PyData} (hx : SqT C.K H a xs) (r : RpAll C.K H M xs ds) : Yields C (Itt C.K a) ds H M := by
  intro i H2 M2 st _
  have h2 : SqT C.K H2 a xs := st.sqT hx
  have r2 := r.ext st
  refine ⟨fun d e => ?_, fun h => ⟨xs, h2, by rw [r2.length]; exact h⟩⟩
  obtain ⟨v, h3, h4⟩ := r2.get e
  refine ⟨⟨xs, v, h2, h3⟩, fun x H' y => ?_⟩
  obtain ⟨e', y⟩ := y
  subst e'
  have e2 := y xs h2
  rw [h3] at e2; cases e2
  exact ⟨.refl _, h4⟩
theorem yields_str {M : Addr → Prop} (x : Str) : Yields C (Its x) (charsOf x) H M := by
  intro i H2 M2 st _
  refine ⟨fun d e => ?_, fun h => by rw [charsOf, List.length_map, Array.length_toList] at h; exact h⟩
  unfold charsOf at e
  rw [List.getElem?_map] at e
  cases e1 : x.cps.toList[i]? with
  | none => rw [e1] at e; cases e
  | some c =>
    rw [e1] at e
    cases e
    have hi : i < x.cps.size := by
      have := (List.getElem?_eq_some_iff.mp e1).1
      rwa [Array.length_toList] at this
    refine ⟨hi, fun v H' yy => ?_⟩
    obtain ⟨rfl, c', h1, rfl⟩ := yy
    rw [Array.getElem?_toList, h1] at e1
    cases e1
    exact ⟨.refl _, .str _⟩
theorem rangeD_get (a b : Int) {i : Nat} {d : PyData} (h : (rangeD a b)[i]? = some d) : i < (b - a).toNat ∧ d = .int (a + i) := by
  unfold rangeD at h
  rw [List.getElem?_map] at h
  cases e : (List.range (b - a).toNat)[i]? with
  | none => rw [e] at h; cases h
  | some k =>
    rw [e] at h
    cases h
    obtain ⟨h1, h2⟩ := List.getElem?_eq_some_iff.mp e
    rw [List.getElem_range] at h2
    subst h2
    exact ⟨by simpa using h1, rfl⟩
theorem rangeD_len (a b : Int) : (rangeD a b).length = (b - a).toNat := by simp [rangeD]
theorem yields_range {M : Addr → Prop} (a b : Int) : Yields C (Itr a (b - a).toNat) (rangeD a b) H M := by
  intro i H2 M2 st _
  refine ⟨fun d e => ?_, fun h => by rw [rangeD_len] at h; exact h⟩
  obtain ⟨h1, rfl⟩ := rangeD_get a b e
  refine ⟨h1, fun x H' y => ?_⟩
  obtain ⟨e', y⟩ := y
  subst e' y
  exact ⟨.refl _, .int _⟩
end
section
variable {X : Cx} {T : List (Addr × Str)} {E : XK} {j : Nat} {pos : Pos} {tg a b c : Expr} {f g h : EF} {st : Stmt} {rest body : List Stmt} {F G : SF}
theorem list_line {pins : List (Addr × Obj)} {s : Shared} {σ : L2.St} {H : Hp} {p : Addr} {xs : List V} (I : Inv X pins σ H s) (h : SqL X.K H p xs) : xs.length ≤ sizeLine := let ⟨_, _, _, z⟩ := I.list h; z
theorem tup_line {pins : List (Addr × Obj)} {s : Shared} {σ : L2.St} {H : Hp} {p : Addr} {xs : List V} (I : Inv X pins σ H s) (h : SqT X.K H p xs) : xs.length ≤ sizeLine := let ⟨_, _, _, z⟩ := I.tuple h; z
/-- behind an expression the state is one of ours -/
theorem pe_inv {e : Expr} {t : TE} (h : PE X e t) : PE X e (fun σ H Q => t σ H fun v H1 => (∀ pins s, Inv X pins σ H1 s → Q v H1)) :=
  ⟨fun pins s σ H Q I q => thn (h.run pins s σ H _ I q) fun u s' ⟨v, H', I', r, q'⟩ => ⟨v, H', I', r, q' pins s' I'⟩⟩
/-- a list or a tuple, as the data shows -/
theorem di_seq (ha : DE X T E a f) : DI X T E tg a (iSeq f) := by
  refine ⟨fun pins s σ H R' I ⟨ρ, α, μ, S, sl, q⟩ => ?_⟩
  unfold iSeq at q
  cases e : f ρ μ with
  | no => rw [e] at q; exact q.elim
  | er x μ1 =>
    refine (pi_list ha).run pins s σ H R' I ⟨ρ, α, μ, S, sl, ?_⟩
    rw [e] at q ⊢
    exact q
  | ok w μ1 =>
    rw [e, Mi.R.bind_ok] at q
    cases w with
    | m k => exact q.elim
    | f k => exact q.elim
    | x k => exact q.elim
    | d d =>
      cases d with
      | list l =>
        refine (pi_list (pe_inv ha)).run pins s σ H R' I ⟨ρ, α, μ, S, sl, ?_⟩
        rw [e]
        intro v H1 α1 st S1 r pins2 s2 I2
        cases r with
        | lst hx n rr => exact ⟨_, rfl, ⟨_, .inl hx⟩, q _ H1 α1 st S1 (by rw [← rr.length]; exact list_line I2 (.inl hx)) (yields_list hx n rr)⟩
      | tuple l =>
        refine (pi_tup (pe_inv ha)).run pins s σ H R' I ⟨ρ, α, μ, S, sl, ?_⟩
        rw [e]
        intro v H1 α1 st S1 r pins2 s2 I2
        cases r with
        | tup hx rr => exact ⟨_, rfl, ⟨_, hx⟩, q _ H1 α1 st S1 (by rw [← rr.length]; exact tup_line I2 hx) (yields_tup hx rr)⟩
      | none => exact q.elim
      | bool b => exact q.elim
      | int b => exact q.elim
      | str b =>
        refine (pi_str ha).run pins s σ H R' I ⟨ρ, α, μ, S, sl, ?_⟩
        rw [e]
        intro v H1 α1 st S1 r
        cases r
        have q : (match (Mi.ofO (items (.str b)) μ1 : R (List PyData)) with
          | .ok l μ1 => ∀ J H1 α1, Step H α μ H1 α1 μ1 → Stor (CvX X T) H1 α1 μ1 → l.length ≤ sizeLine → Yields (CvX X T) J l H1 (Own α1 μ1) → R' J H1
          | .er x μ1 => ∀ cls d H1 α1, Step H α μ H1 α1 μ1 → Stor (CvX X T) H1 α1 μ1 → RpX (CvX X T) H1 cls d x → E cls d H1
          | .no => False) := q
        by_cases hl : b.length ≤ LIM
        · rw [show items (.str b) = some (charsOf b) from if_pos hl] at q
          exact ⟨b, rfl, q _ H1 α1 st S1 (by rw [charsOf, List.length_map, Array.length_toList]; exact lim_line hl) (yields_str b)⟩
        · rw [show items (.str b) = none from if_neg hl] at q
          exact q.elim
      | dict b => exact q.elim
theorem di_range1 {p : Pos} (ha : DE X T E a f) (hm : X.mg "range" = none) (hg : Gl X "range" := by rfl) (hs : starEach [a] X.env = [(false, eval a X.env)] := by rfl) : DI X T E tg (.Call (.Name "range" p) [a] [] pos) (iRange1 f) :=
  pi_imp (pi_range1 hg hm (pa_cons ha pa_nil hs) hs) fun σ H R ⟨ρ, α, μ, S, sl, q⟩ => tD_bindI S sl q fun v w H1 α1 μ1 st S1 sl1 r q1 => by
    split at q1
    · rename_i l μ2 e
      split at e
      · rename_i b
        split at e
        · rename_i hb
          cases e
          have hv : v = .int b := RpT.int (.inl r)
          subst hv
          have hL : (LIM : Int) = 1000000 := rfl
          refine ⟨b, rfl, by omega, by omega, ?_⟩
          have y := yields_range (C := CvX X T) (H := H1) (M := Own α1 μ1) 0 b
          have z := q1 _ H1 α1 (.refl _ _ _) S1 (by rw [rangeD_len]; exact Nat.le_trans (show (b - 0).toNat ≤ LIM by unfold LIM; omega) (by decide)) y
          have e0 : (b - 0).toNat = b.toNat := by rw [Int.sub_zero]
          rw [e0] at z
          exact z
        · cases e
      · cases e
    · rename_i x μ2 e
      split at e
      · split at e <;> cases e
      · cases e
    · exact q1.elim
theorem di_range2 {p : Pos} (ha : DE X T E a f) (hb : DE X T E b g) (hm : X.mg "range" = none) (hg : Gl X "range" := by rfl) (hs : starEach [a, b] X.env = [(false, eval a X.env), (false, eval b X.env)] := by rfl) (hs2 : starEach [b] X.env = [(false, eval b X.env)] := by rfl) : DI X T E tg (.Call (.Name "range" p) [a, b] [] pos) (iRange2 f g) :=
  pi_imp (pi_range2 hg hm (pa_cons ha (pa_cons hb pa_nil hs2) (by rw [hs, hs2])) hs hs2) fun σ H R ⟨ρ, α, μ, S, sl, q⟩ => tD_bindI S sl q fun v w H1 α1 μ1 st S1 sl1 r q1 => tD_bindI S1 sl1 q1 fun v2 w2 H2 α2 μ2 st2 S2 sl2 r2 q2 => by
    split at q2
    · rename_i l μ3 e
      split at e
      · rename_i i k
        split at e
        · rename_i hb
          cases e
          have hv : v = .int i := RpT.int (.inl r)
          have hv2 : v2 = .int k := RpT.int (.inl r2)
          subst hv hv2
          have hL : (LIM : Int) = 1000000 := rfl
          refine ⟨i, k, rfl, by omega, ?_⟩
          exact q2 _ H2 α2 (.refl _ _ _) S2 (by rw [rangeD_len]; exact Nat.le_trans (show (k - i).toNat ≤ 2 * LIM by unfold LIM; omega) (by decide)) (yields_range (C := CvX X T) i k)
        · cases e
      · cases e
    · rename_i x μ3 e
      split at e
      · split at e <;> cases e
      · cases e
    · exact q2.elim
/-! ### for -/
theorem ds_for {t : TF} {it : IF} {ks : List Nat} (ck : CK X E j) (hp : PassesOwn (model X.prog X.w) X.A X.env X.xe) (hi : DI X T E tg a it) (hg : DG X T tg t ks) (hb : DSs X T E body F) (hs : ∀ x, foldedSetIterable a X.env x = pure x := by intro _; rfl) :
    DS X T E (.For tg a body [] pos) (sFor t it F) :=
  ps_imp (ps_for hp ck.calm hi hg hb hs) fun D σ H ⟨ρ, α, μ, S, sl, q⟩ => by
    refine ⟨ρ, α, μ, S, sl, ?_⟩
    unfold sFor at q
    cases e : it ρ μ with
    | no => rw [e] at q; exact q
    | er x μ1 => rw [e] at q; exact q
    | ok l μ1 =>
      rw [e, R.bindS_ok] at q
      intro J H1 α1 st1 S1 hl y
      refine ⟨fun i m σ2 H2 => m = l.length - i ∧ i ≤ l.length ∧ ∃ ρ2 α2 μ2, Step H1 α1 μ1 H2 α2 μ2 ∧ Stor (CvX X T) H2 α2 μ2 ∧ Sl (CvX X T) H2 α2 μ2 σ2 ρ2 ∧ QS (CvX X T) E D H2 α2 μ2 (forL t F (l.drop i) ρ2 μ2),
        ⟨l.length, rfl, Nat.zero_le _, ρ, α1, μ1, .refl _ _ _, S1, sl.step st1, QS.step q st1⟩, ?_⟩
      rintro i m σ2 H2 ⟨rfl, hi, ρ2, α2, μ2, st2, S2, sl2, q2⟩
      obtain ⟨yg, ys⟩ := y i H2 (Own α2 μ2) st2.ext fun _ h => S2.own_ne h
      by_cases hlt : i < l.length
      · obtain ⟨d, hd⟩ : ∃ d, l[i]? = some d := ⟨l[i], List.getElem?_eq_getElem hlt⟩
        have ed : l.drop i = d :: l.drop (i + 1) := by
          rw [List.drop_eq_getElem_cons hlt]
          congr 1
          rw [List.getElem?_eq_getElem hlt] at hd
          exact Option.some.inj hd
        rw [ed] at q2
        obtain ⟨go, yl⟩ := yg d hd
        refine .inr ⟨go, fun σ' H' => l.length - (i + 1) = l.length - (i + 1) ∧ i + 1 ≤ l.length ∧ ∃ ρ2 α2 μ2, Step H1 α1 μ1 H' α2 μ2 ∧ Stor (CvX X T) H' α2 μ2 ∧ Sl (CvX X T) H' α2 μ2 σ' ρ2 ∧ QS (CvX X T) E D H' α2 μ2 (forL t F (l.drop (i + 1)) ρ2 μ2),
          fun σ' H' n => ⟨_, by omega, n⟩, fun x H' yy => ?_⟩
        obtain ⟨sm3, r3⟩ := yl x H' yy
        have st3 := Same.step S2 sm3
        have S3 := S2.same sm3
        have q3 := QS.step q2 st3
        unfold forL at q3
        cases et : t d ρ2 with
        | none => rw [et] at q3; exact q3.elim
        | some ρ3 =>
          rw [et] at q3
          refine ⟨ρ2, α2, μ2, d, ρ3, S3, sl2.step st3, r3, et, fun σ3 _ sl3 => ⟨ρ3, α2, μ2, S3, sl3, ?_⟩⟩
          dsimp only at q3
          cases eb : F ρ3 μ2 with
          | nx ρ4 μ4 =>
            rw [eb] at q3
            exact fun σ' H5 α5 s S5 sl5 => ⟨rfl, hlt, ρ4, α5, μ4, (st2.trans st3).trans s, S5, sl5, QS.step (r := forL t F (l.drop (i + 1)) ρ4 μ4) q3 s⟩
          | ct ρ4 μ4 =>
            rw [eb] at q3
            exact fun σ' H5 α5 s S5 sl5 => ⟨rfl, hlt, ρ4, α5, μ4, (st2.trans st3).trans s, S5, sl5, QS.step (r := forL t F (l.drop (i + 1)) ρ4 μ4) q3 s⟩
          | bk ρ4 μ4 => rw [eb] at q3; exact q3
          | rt w μ4 => rw [eb] at q3; exact q3
          | er x μ4 => rw [eb] at q3; exact q3
          | no => rw [eb] at q3; exact q3
      · have e0 : l.drop i = [] := List.drop_eq_nil_of_le (by omega)
        rw [e0] at q2
        exact .inl ⟨ys (by omega), QS.nx S2 sl2 q2⟩
/-! ### while -/
theorem ds_while {n : Nat} (hp : PassesOwn (model X.prog X.w) X.A X.env X.xe) (hc : DT X T E c f) (hb : DSs X T E body F) : DS X T E (.While c body [] pos) (sWhile n f F) :=
  ps_imp (ps_while hp hc hb) fun D σ H ⟨ρ, α, μ, S, sl, q⟩ => by
    refine ⟨fun m σ2 H2 => ∃ ρ2 α2 μ2, Stor (CvX X T) H2 α2 μ2 ∧ Sl (CvX X T) H2 α2 μ2 σ2 ρ2 ∧ QS (CvX X T) E D H2 α2 μ2 (whileN f F m ρ2 μ2), ⟨n, ρ, α, μ, S, sl, q⟩, ?_⟩
    rintro m σ2 H2 ⟨ρ2, α2, μ2, S2, sl2, q2⟩
    cases m with
    | zero => exact q2.elim
    | succ m =>
      refine tD_testS S2 sl2 q2 fun b H3 α3 μ3 st3 S3 sl3 q3 => ⟨b, rfl, ?_⟩
      cases b with
      | false => rw [if_neg Bool.false_ne_true] at q3 ⊢; exact QS.nx S3 sl3 q3
      | true =>
        rw [if_pos rfl] at q3 ⊢
        refine ⟨fun σ' H' => ∃ ρ2 α2 μ2, Stor (CvX X T) H' α2 μ2 ∧ Sl (CvX X T) H' α2 μ2 σ' ρ2 ∧ QS (CvX X T) E D H' α2 μ2 (whileN f F m ρ2 μ2), fun σ' H' z => ⟨m, Nat.lt_succ_self m, z⟩, ρ2, α3, μ3, S3, sl3, ?_⟩
        cases eb : F ρ2 μ3 with
        | nx ρ4 μ4 => rw [eb] at q3; exact fun σ' H5 α5 s S5 sl5 => ⟨ρ4, α5, μ4, S5, sl5, QS.step (r := whileN f F m ρ4 μ4) q3 s⟩
        | ct ρ4 μ4 => rw [eb] at q3; exact fun σ' H5 α5 s S5 sl5 => ⟨ρ4, α5, μ4, S5, sl5, QS.step (r := whileN f F m ρ4 μ4) q3 s⟩
        | bk ρ4 μ4 => rw [eb] at q3; exact q3
        | rt w μ4 => rw [eb] at q3; exact q3
        | er x μ4 => rw [eb] at q3; exact q3
        | no => rw [eb] at q3; exact q3
/-! ### comprehensions -/
theorem CK.blk (ck : CK X E j) (s : Shared) (H : Hp) (scope : Scope) (cenv : PySem.Env) (fp : List Addr) : CK (X.blk s H scope cenv fp) E0 j where
  calm := ck.calm
  nd := ck.nd
  room := ck.room
  takes := fun _ _ x => by
    obtain ⟨_, _, _, _, _, _, _, _, _, _, _, _, _, _, _, _, z⟩ := x
    exact z.elim
structure DC (X : Cx) (T : List (Addr × Str)) (ifs : List Expr) (f : EF) : Prop where
  pts : PTs X ifs (fun σ H Q => tD (CvX X T) E0 f σ H fun v H1 => ∃ b, v = .bl b ∧ Q b H1)
theorem pts_imp {ifs : List Expr} {t t' : TT} (h : PTs X ifs t) (i : ∀ σ H Q, t' σ H Q → t σ H Q) : PTs X ifs t' := ⟨fun pins s σ H Q I q => h.run pins s σ H Q I (i _ _ _ q)⟩
theorem dc_nil : DC X T [] eYes := ⟨pts_imp pts_nil fun σ H Q ⟨ρ, α, μ, S, sl, q⟩ => by
  obtain ⟨b, e, q⟩ := PQ.bl S q
  cases e
  exact q⟩
theorem dc_one (h : DT X T E0 c f) : DC X T [c] f := ⟨pts_one h⟩
end
section
variable {C : Cv} {H : Hp} {α : Al} {μ : Sto}
/-- a new list that nobody knows of yet -/
def Al.hide (α : Al) (p : Addr) : Al := ⟨α.own, p :: α.hid⟩
theorem own_hide {p a : Addr} : Own (α.hide p) μ a ↔ Own α μ a ∨ a = p := by
  constructor
  · rintro (h | h)
    · exact .inl (.inl h)
    · rcases List.mem_cons.mp h with h | h
      · exact .inr h
      · exact .inl (.inr h)
  · rintro ((h | h) | rfl)
    · exact .inl h
    · exact .inr (List.mem_cons_of_mem _ h)
    · exact .inr List.mem_cons_self
theorem ext_hide (S : Stor C H α μ) {p : Addr} {o : HO} (np : H p = none) : Ext H (Own α μ) (upd H p o) (Own (α.hide p) μ) := by
  refine ⟨fun b u h n _ => ⟨same_upd np b u h, fun z => ?_⟩, fun b xs h => same_upd np b _ h, fun b o u h => same_upd np b _ h⟩
  rcases own_hide.mp z with z | z
  · exact n z
  · rw [z, np] at h; cases h
theorem CellOk.ext {H' : Hp} {α' : Al} {μ' : Sto} {a : Addr} {c : Cell} (h : CellOk C H α μ a c) (e : Ext H (Own α μ) H' (Own α' μ')) (ha : H' a = H a) : CellOk C H' α' μ' a c := by
  cases c with
  | lst l => obtain ⟨ys, e1, e2⟩ := h; exact ⟨ys, ha.trans e1, e2.ext e⟩
  | ins c fs => obtain ⟨A, dx, gs, e1, e2, e3, e4⟩ := h; exact ⟨A, dx, gs, e1, ha.trans e2, e3, e4.ext e⟩
theorem stor_hide (S : Stor C H α μ) {p : Addr} {xs : List V} (np : H p = none) : Stor C (upd H p (.lst xs)) (α.hide p) μ := by
  have fresh : ∀ a ∈ α.own ++ α.hid, a ≠ p := fun a ha e => by
    obtain ⟨o, q, _⟩ := S.there a ha
    rw [e, np] at q; cases q
  refine ⟨S.len, ?_, fun a h => ?_, fun k c h => ?_, S.tabs.ext (same_upd np)⟩
  · show (α.own ++ p :: α.hid).Nodup
    rw [List.Perm.nodup_iff List.perm_middle]
    exact List.nodup_cons.mpr ⟨fun z => fresh p z rfl, S.nd⟩
  · have h : a ∈ α.own ++ p :: α.hid := h
    by_cases e : a = p
    · subst e
      exact ⟨_, upd_same, fun _ z => by cases z⟩
    · have hm : a ∈ α.own ++ α.hid := by
        rcases List.mem_append.mp h with h | h
        · exact List.mem_append_left _ h
        · rcases List.mem_cons.mp h with h | h
          · exact absurd h e
          · exact List.mem_append_right _ h
      obtain ⟨o, q, n⟩ := S.there a hm
      exact ⟨o, same_upd np _ _ q, n⟩
  · obtain ⟨a, h1, h2⟩ := S.cell k c h
    refine ⟨a, h1, h2.ext (ext_hide S np) ?_⟩
    rw [upd_ne (fresh a (List.mem_append_left _ (List.mem_of_getElem? h1)))]
/-- the hidden list is written -/
theorem stor_write {p : Addr} {xs ys : List V} (S : Stor C H α μ) (hm : p ∈ α.hid) (hp : H p = some (.lst xs)) : Ext H (Own α μ) (upd H p (.lst ys)) (Own α μ) ∧ Stor C (upd H p (.lst ys)) α μ := by
  have op : Own α μ p := .inr hm
  have e : Ext H (Own α μ) (upd H p (.lst ys)) (Own α μ) := by
    refine ⟨fun b o h n _ => ⟨?_, n⟩, fun b zs h => ?_, fun b o u h => ?_⟩
    · rw [upd_ne (fun e => n (by rw [e]; exact op))]; exact h
    · rw [upd_ne (fun e => by rw [e, hp] at h; cases h)]; exact h
    · rw [upd_ne (fun e => by rw [e, hp] at h; cases h)]; exact h
  refine ⟨e, S.len, S.nd, fun a h => ?_, fun k c h => ?_, ?_⟩
  · by_cases z : a = p
    · rw [z]; exact ⟨_, upd_same, fun _ z => by cases z⟩
    · rw [upd_ne z]; exact S.there a h
  · obtain ⟨a, h1, h2⟩ := S.cell k c h
    refine ⟨a, h1, h2.ext e ?_⟩
    rw [upd_ne (fun z => S.nohid h1 (by rw [z]; exact hm))]
  · intro q hq
    obtain ⟨ps, h1, h2, h3⟩ := S.tabs q hq
    refine ⟨ps, by rw [upd_ne (fun e => by rw [e, hp] at h1; cases h1)]; exact h1, h2, fun pos cv hc => ?_⟩
    obtain ⟨c, e1, e2⟩ := h3 pos cv hc
    refine ⟨c, e1, ?_⟩
    rw [upd_ne (fun e => by rw [e, hp] at e2; cases e2)]
    exact e2
end
section
variable {X : Cx} {T : List (Addr × Str)} {E : XK} {j : Nat} {pos : Pos} {tg a b c : Expr} {f g h : EF}
theorem wipe_wipe (σ : L2.St) (vs : List Nat) : L2.wipe (L2.wipe σ vs) vs = L2.wipe σ vs := by
  refine List.ext_getElem? fun k => ?_
  rw [wipe_at, wipe_at]
  by_cases hk : k ∈ vs
  · rw [if_pos hk, if_pos hk, Option.map_map]
    rfl
  · rw [if_neg hk, if_neg hk]
theorem ext_unhide {P : Addr} {H' : Hp} {μ' : Sto} {α' : Al} : Ext H' (Own (α'.hide P) μ') H' (Own α' μ') :=
  ⟨fun b o h n _ => ⟨h, fun z => n (own_hide.mpr (.inl z))⟩, fun _ _ h => h, fun _ _ _ h => h⟩
theorem nodup_hide {C : Cv} {P : Addr} {H' : Hp} {μ' : Sto} {α' : Al} (S : Stor C H' (α'.hide P) μ') : P ∉ α'.own ++ α'.hid ∧ (α'.own ++ α'.hid).Nodup := by
  have h : (α'.own ++ P :: α'.hid).Nodup := S.nd
  rw [List.Perm.nodup_iff List.perm_middle] at h
  exact List.nodup_cons.mp h
theorem stor_unhide {C : Cv} {P : Addr} {H' : Hp} {μ' : Sto} {α' : Al} (S : Stor C H' (α'.hide P) μ') : Stor C H' α' μ' := by
  refine ⟨S.len, (nodup_hide S).2, fun a h => S.there a ?_, fun k c h => ?_, S.tabs⟩
  · show a ∈ α'.own ++ P :: α'.hid
    rcases List.mem_append.mp h with h | h
    · exact List.mem_append_left _ h
    · exact List.mem_append_right _ (List.mem_cons_of_mem _ h)
  · obtain ⟨a, h1, h2⟩ := S.cell k c h
    exact ⟨a, h1, h2.ext ext_unhide rfl⟩
theorem hide_of {P : Addr} {α α' : Al} (h : α'.hid = (α.hide P).hid) : α' = Al.hide ⟨α'.own, α.hid⟩ P := by
  obtain ⟨o, h'⟩ := α'
  have h : h' = P :: α.hid := h
  subst h
  rfl
/-- what holds at turn i of a comprehension: the new list at P holds acc -/
structure LcInv (C : Cv) (P : Addr) (H1 : Hp) (α1 : Al) (μ1 : Sto) (n : Nat) (accD : List PyData) (H2 : Hp) (α2 : Al) (μ2 : Sto) (acc : List V) : Prop where
  stor : Stor C H2 (α2.hide P) μ2
  ext : Ext H1 (Own α1 μ1) H2 (Own (α2.hide P) μ2)
  pre : ∀ (k : Nat) (a : Addr), α1.own[k]? = some a → α2.own[k]? = some a
  hid : α2.hid = α1.hid
  keep : ∀ b ∈ α1.hid, H2 b = H1 b
  list : H2 P = some (.lst acc)
  len : acc.length ≤ n
  rep : RpAll C.K H2 (Own (α2.hide P) μ2) acc accD
theorem LcInv.st {C : Cv} {P : Addr} {H1 H2 : Hp} {α1 α2 : Al} {μ1 μ2 : Sto} {n : Nat} {accD : List PyData} {acc : List V} (I : LcInv C P H1 α1 μ1 n accD H2 α2 μ2 acc) : Step H1 α1 μ1 H2 α2 μ2 :=
  ⟨I.ext.trans ext_unhide, I.pre, I.hid, I.keep⟩
/-- a step of the block -/
theorem LcInv.go {C : Cv} {P : Addr} {H1 H2 H3 : Hp} {α1 α2 α3 : Al} {μ1 μ2 μ3 : Sto} {n : Nat} {accD : List PyData} {acc : List V} (I : LcInv C P H1 α1 μ1 n accD H2 α2 μ2 acc) (s : Step H2 (α2.hide P) μ2 H3 α3 μ3) (S : Stor C H3 α3 μ3) :
    ∃ α4, α3 = α4.hide P ∧ LcInv C P H1 α1 μ1 n accD H3 α4 μ3 acc := by
  have e := hide_of (α := α2) s.hid
  refine ⟨_, e, by rw [← e]; exact S, by rw [← e]; exact I.ext.trans s.ext, fun k a h => s.pre k a (I.pre k a h), I.hid, fun b hb => ?_, ?_, I.len, by rw [← e]; exact I.rep.ext s.ext⟩
  · exact (s.keep b (List.mem_cons_of_mem _ (by rw [I.hid]; exact hb))).trans (I.keep b hb)
  · exact (s.keep P List.mem_cons_self).trans I.list
theorem LcInv.put {C : Cv} {P : Addr} {H1 H2 : Hp} {α1 α2 : Al} {μ1 μ2 : Sto} {n : Nat} {accD : List PyData} {acc : List V} {v : V} {d : PyData} (I : LcInv C P H1 α1 μ1 n accD H2 α2 μ2 acc) (np : H1 P = none) (S1 : Stor C H1 α1 μ1) (r : Rp C.K H2 (Own (α2.hide P) μ2) v d) :
    LcInv C P H1 α1 μ1 (n + 1) (accD ++ [d]) (upd H2 P (.lst (acc ++ [v]))) α2 μ2 (acc ++ [v]) := by
  obtain ⟨e, S⟩ := stor_write (ys := acc ++ [v]) I.stor List.mem_cons_self I.list
  refine ⟨S, I.ext.trans e, I.pre, I.hid, fun b hb => ?_, upd_same, by rw [List.length_append]; exact Nat.succ_le_succ I.len, (I.rep.append (.cons r .nil)).ext e⟩
  rw [upd_ne (fun z => ?_)]
  · exact I.keep b hb
  · obtain ⟨o, q, _⟩ := S1.there b (List.mem_append_right _ hb)
    rw [z, np] at q; cases q
/-- the reading of a comprehension -/
theorem lc_rd {it : IF} {t : TF} {vs ks : List Nat} {σ : L2.St} {H : Hp} {Q : VK} (hw : ∀ k ∈ ks, k ∈ vs) (q : tD (CvX X T) E (eLc vs t it f g) σ H Q) :
    tLc (tI (CvX X T) E it) (tG (CvX X T) t ks) (fun σ H Q => tD (CvX X T) E0 f σ H fun v H1 => ∃ b, v = .bl b ∧ Q b H1) (tD (CvX X T) E0 g) vs σ H Q := by
  obtain ⟨ρ, α, μ, S, sl, q⟩ := q
  refine ⟨ρ, α, μ, S, sl, ?_⟩
  unfold eLc at q
  cases e : it ρ μ with
  | no => rw [e] at q; exact q.elim
  | er x μ1 => rw [e] at q; exact q
  | ok l μ1 =>
    rw [e, Mi.R.bind_ok] at q
    intro J H1 α1 st1 S1 hl y P np
    have I0 : LcInv (CvX X T) P H1 α1 μ1 0 [] (upd H1 P (.lst [])) α1 μ1 [] :=
      ⟨stor_hide S1 np, ext_hide S1 np, fun _ _ h => h, rfl, (Same.step S1 (same_upd np)).keep, upd_same, Nat.le_refl _, .nil⟩
    refine ⟨fun i m H2 => m = l.length - i ∧ i ≤ l.length ∧ ∃ α2 μ2 acc accD, LcInv (CvX X T) P H1 α1 μ1 i accD H2 α2 μ2 acc ∧ PQ (CvX X T) E Q H1 α1 μ1 (lcL t f g (wipeE ρ vs) (l.drop i) accD μ2),
      ⟨l.length, rfl, Nat.zero_le _, α1, μ1, [], [], I0, PQ.step q st1⟩, ?_⟩
    rintro i m H2 ⟨rfl, hi, α2, μ2, acc, accD, I2, q2⟩
    obtain ⟨yg, ys⟩ := y i H2 (Own (α2.hide P) μ2) I2.ext fun _ h => I2.stor.own_ne h
    by_cases hlt : i < l.length
    · obtain ⟨d, hd⟩ : ∃ d, l[i]? = some d := ⟨l[i], List.getElem?_eq_getElem hlt⟩
      have ed : l.drop i = d :: l.drop (i + 1) := by
        rw [List.drop_eq_getElem_cons hlt]
        congr 1
        rw [List.getElem?_eq_getElem hlt] at hd
        exact Option.some.inj hd
      rw [ed] at q2
      obtain ⟨go, yl⟩ := yg d hd
      refine .inr ⟨go, fun H3 => i + 1 ≤ l.length ∧ ∃ α2 μ2 acc accD, LcInv (CvX X T) P H1 α1 μ1 (i + 1) accD H3 α2 μ2 acc ∧ PQ (CvX X T) E Q H1 α1 μ1 (lcL t f g (wipeE ρ vs) (l.drop (i + 1)) accD μ2), fun H3 n => ⟨_, by omega, rfl, n⟩, fun x H3 yy => ?_⟩
      obtain ⟨sm3, r3⟩ := yl x H3 yy
      obtain ⟨α3, ea, I3⟩ := I2.go (Same.step I2.stor sm3) (I2.stor.same sm3)
      have ea2 : α3 = α2 := by
        obtain ⟨o2, h2⟩ := α2
        obtain ⟨o3, h3⟩ := α3
        injection ea with e1 e2
        injection e2 with _ e3
        subst e1 e3
        rfl
      subst ea2
      have sl3 : Sl (CvX X T) H3 (α3.hide P) μ2 (L2.wipe σ vs) (wipeE ρ vs) := by
        have z := (sl.step st1).wipe vs
        refine ⟨z.len, fun i w h => ?_⟩
        obtain ⟨v, h1, h2⟩ := z.at_ i w h
        refine ⟨v, h1, ?_⟩
        cases w with
        | d d => exact Rp.ext I3.ext h2
        | m k => obtain ⟨a, h3, h4⟩ := h2; exact ⟨a, I3.pre _ _ h3, h4⟩
        | f x => exact h2
        | x k => exact h2
      unfold lcL at q2
      cases et : t d (wipeE ρ vs) with
      | none => rw [et] at q2; exact q2.elim
      | some ρ3 =>
        rw [et] at q2
        refine ⟨wipeE ρ vs, α3.hide P, μ2, d, ρ3, I3.stor, sl3, r3, et, fun σ3 o3 sl4 => ⟨(o3.wipe hw).trans (wipe_wipe σ vs), ρ3, α3.hide P, μ2, I3.stor, sl4, ?_⟩⟩
        dsimp only at q2
        cases ef : f ρ3 μ2 with
        | no => rw [ef] at q2; exact q2.elim
        | er x μ3 => rw [ef] at q2; exact q2.elim
        | ok w μ3 =>
          rw [ef] at q2
          intro v4 H4 α4 st4 S4 r4
          obtain ⟨α5, e5, I5⟩ := I3.go st4 S4
          subst e5
          split at q2
          · rename_i μ3' e3
            cases e3
            cases r4
            refine ⟨true, rfl, ?_⟩
            show if true = true then _ else _
            rw [if_pos rfl]
            refine ⟨ρ3, α5.hide P, μ3, S4, sl4.step st4, ?_⟩
            split at q2
            · rename_i z μ6 eg
              rw [eg]
              intro v6 H6 α6 st6 S6 r6
              obtain ⟨α7, e7, I7⟩ := I5.go st6 S6
              subst e7
              exact ⟨acc, I7.list, Nat.lt_of_le_of_lt I7.len (Nat.lt_of_lt_of_le hlt hl), hlt, α7, μ6, _, _, I7.put np S1 r6, q2⟩
            · exact q2.elim
          · rename_i μ3' e3
            cases e3
            cases r4
            refine ⟨false, rfl, ?_⟩
            show if false = true then _ else _
            rw [if_neg Bool.false_ne_true]
            exact ⟨hlt, α5, μ3, acc, accD, ⟨I5.stor, I5.ext, I5.pre, I5.hid, I5.keep, I5.list, Nat.le_succ_of_le I5.len, I5.rep⟩, q2⟩
          · exact q2.elim
    · have e0 : l.drop i = [] := List.drop_eq_nil_of_le (by omega)
      rw [e0] at q2
      refine .inl ⟨ys (by omega), q2 _ H2 α2 I2.st (stor_unhide I2.stor) (.lst (.inl I2.list) (fun z => ?_) (I2.rep.ext ext_unhide))⟩
      have hn := (nodup_hide I2.stor).1
      rcases z with ⟨k, c, h1, h2⟩ | z
      · exact hn (List.mem_append_left _ (List.mem_of_getElem? h1))
      · exact hn (List.mem_append_right _ z)
theorem de_lc {it : IF} {t : TF} {ks : List Nat} {elt iter : Expr} {ifs : List Expr} {scope : Scope} {own : List (Str × Nat)} (ck : CK X E j) (hi : DI X T E tg iter it) (ok : BlkOk X.N X.env.scope scope own)
    (hg : ∀ (s : Shared) (H : Hp) (D : Addr) (cl : List (Str × Addr)) (fp : List Addr), DG (X.blk s H scope (compEnvC scope cl D X.env) fp) T tg t ks)
    (ht : ∀ (s : Shared) (H : Hp) (D : Addr) (cl : List (Str × Addr)) (fp : List Addr), CK (X.blk s H scope (compEnvC scope cl D X.env) fp) E0 j → DC (X.blk s H scope (compEnvC scope cl D X.env) fp) T ifs f)
    (he : ∀ (s : Shared) (H : Hp) (D : Addr) (cl : List (Str × Addr)) (fp : List Addr), CK (X.blk s H scope (compEnvC scope cl D X.env) fp) E0 j → DE (X.blk s H scope (compEnvC scope cl D X.env) fp) T E0 elt g)
    (hw : ∀ k ∈ ks, k ∈ own.map (·.2) := by decide) (hs : ∀ x, foldedSetIterable iter X.env x = pure x := by intro _; rfl) :
    DE X T E (.ListComp elt [⟨tg, iter, ifs, 0⟩] scope pos) (eLc (own.map (·.2)) t it f g) :=
  pe_imp (pe_lc (g := tG (CvX X T) t ks) (tt := fun σ H Q => tD (CvX X T) E0 f σ H fun v H1 => ∃ b, v = .bl b ∧ Q b H1) (te := tD (CvX X T) E0 g) ck.calm ck.nd hi ok hg (fun s H D cl fp => (ht s H D cl fp (ck.blk s H scope _ fp)).pts) (fun s H D cl fp => he s H D cl fp (ck.blk s H scope _ fp)) hs) fun σ H Q q => lc_rd hw q
/-- y = [..] on one line -/
theorem ds_setLc (i : Nat) {y : Str} {py : Pos} {it : IF} {t : TF} {ks : List Nat} {elt iter : Expr} {ifs : List Expr} {scope : Scope} {own : List (Str × Nat)} {spos : Pos} (ck : CK X E j) (hi : DI X T E tg iter it) (ok : BlkOk X.N X.env.scope scope own)
    (hg : ∀ (s : Shared) (H : Hp) (D : Addr) (cl : List (Str × Addr)) (fp : List Addr), DG (X.blk s H scope (compEnvC scope cl D X.env) fp) T tg t ks)
    (ht : ∀ (s : Shared) (H : Hp) (D : Addr) (cl : List (Str × Addr)) (fp : List Addr), CK (X.blk s H scope (compEnvC scope cl D X.env) fp) E0 j → DC (X.blk s H scope (compEnvC scope cl D X.env) fp) T ifs f)
    (he : ∀ (s : Shared) (H : Hp) (D : Addr) (cl : List (Str × Addr)) (fp : List Addr), CK (X.blk s H scope (compEnvC scope cl D X.env) fp) E0 j → DE (X.blk s H scope (compEnvC scope cl D X.env) fp) T E0 elt g)
    (hy : X.N[i]? = some y := by rfl) (hyl : X.env.scope.names.lookup y = some .local := by rfl) (hsw : swapsWith (.ListComp elt [⟨tg, iter, ifs, 0⟩] scope pos) (some (.Name y py)) spos.line X.env = pure true := by exact sw_true rfl rfl rfl (by decide +kernel))
    (hw : ∀ k ∈ ks, k ∈ own.map (·.2) := by decide) (hs : ∀ x, foldedSetIterable iter X.env x = pure x := by intro _; rfl) :
    DS X T E (.Assign [.Name y py] (.ListComp elt [⟨tg, iter, ifs, 0⟩] scope pos) spos) (sAsg i (eLc (own.map (·.2)) t it f g)) :=
  ps_imp (ps_setLc (g := tG (CvX X T) t ks) (tt := fun σ H Q => tD (CvX X T) E0 f σ H fun v H1 => ∃ b, v = .bl b ∧ Q b H1) (te := tD (CvX X T) E0 g) ck.calm ck.nd hy hyl hsw hi ok hg (fun s H D cl fp => (ht s H D cl fp (ck.blk s H scope _ fp)).pts) (fun s H D cl fp => he s H D cl fp (ck.blk s H scope _ fp)) hs) fun D σ H ⟨ρ, α, μ, S, sl, q⟩ => by
    refine lc_rd (E := E) hw ⟨ρ, α, μ, S, sl, ?_⟩
    cases e : eLc (own.map (·.2)) t it f g ρ μ with
    | ok w μ1 =>
      unfold sAsg at q
      rw [e, Mi.R.bindS_ok] at q
      exact fun v H1 α1 st S1 r => q _ H1 α1 st S1 ((sl.step st).set r i)
    | er x μ1 => unfold sAsg at q; rw [e] at q; exact q
    | no => unfold sAsg at q; rw [e] at q; exact q
end
/-! ### raise; a def's body -/
section
variable {X : Cx} {T : List (Addr × Str)} {E : XK} {j : Nat} {pos : Pos}
/-- an own class over ValueError without an __init__ of its own -/
structure OwnEx (K : PySem.W.Frag) (mg : Str → Option Value) (x : Str) : Prop where
  ex : ∃ A, mg x = some (.ref A) ∧ PySem.W.keepIn K (.ref A) = true ∧ PySem.W.excIn K A [.type "ValueError", .type "Exception", .type "BaseException", .type "object"] "ValueError.__new__" = true ∧
    PySem.W.subIn K (.ref A) (.type "BaseException") = some true ∧ PySem.W.typeIn K (.ref A) = some (.type "type")
theorem ds_raise {x m : Str} {j' : Nat} {p p2 p3 : Pos} (ck : CK X E j) (hx : OwnEx X.K X.mg x) (hg : Gl X x := by rfl) (hdb : (x == ("__debug__" : Str)) = false := by decide) :
    DS X T E (.Raise (some (.Call (.Name x p) [.Constant (.str m) j' p2] [] p3)) none pos) (sRaise x) := by
  obtain ⟨A, gC, kC, xC, bC, tC⟩ := hx.ex
  exact ps_imp (L2N.ps_raise ck.calm ck.takes (L2N.pmk_own PySem.F.excBase_ValueError xC gC kC (raises_own bC tC) hg hdb)) fun D σ H ⟨ρ, α, μ, S, sl, q⟩ => q _ _ H α (.refl _ _ _) S ⟨gC, rfl⟩
end
section
variable {P : Program} {w : World} {K : PySem.W.Frag} {mg : Str → Option Value} {base : Heap} {T : List (Addr × Str)}
theorem Sl.start {C : Cv} {H : Hp} {α : Al} {μ : Sto} : ∀ {vs : List V} {ws : List W}, RpWs C H α μ vs ws → ∀ m, (∀ (i : Nat) (w : W), (ws.map some ++ List.replicate m (none : Option W))[i]? = some (some w) → ∃ v, (vs.map some ++ List.replicate m (none : Option V))[i]? = some (some v) ∧ RpW C H α μ v w)
  | _, _, .nil, m => fun i w h => by
    have h : (List.replicate m (none : Option W))[i]? = some (some w) := h
    have z := List.mem_of_getElem? h
    rw [List.mem_replicate] at z
    cases z.2
  | _, _, .cons r t, m => fun i w h => by
    cases i with
    | zero =>
      have h : some (some _) = some (some w) := h
      injection h with h
      injection h with h
      subst h
      exact ⟨_, rfl, r⟩
    | succ i => exact Sl.start t m i w (by simpa using h)
/-- what a callee leaves, without its own -/
theorem stor_cut {C : Cv} {H H' : Hp} {α α' : Al} {μ μ' : Sto} {n : Nat} (S : Stor C H α μ) (st : Step H α μ H' α' μ') (S' : Stor C H' α' μ') (hn : μ.length ≤ n) :
    Step H α μ H' ⟨α'.own.take n, α'.hid⟩ (μ'.take n) ∧ Stor C H' ⟨α'.own.take n, α'.hid⟩ (μ'.take n) ∧ Step H' α' μ' H' α' μ' ∧ Ext H' (Own α' μ') H' (Own ⟨α'.own.take n, α'.hid⟩ (μ'.take n)) := by
  have ow : ∀ {a}, Own ⟨α'.own.take n, α'.hid⟩ (μ'.take n) a → Own α' μ' a := fun {a} h => by
    rcases h with ⟨k, c, h1, h2⟩ | h
    · have h1 : (α'.own.take n)[k]? = some a := h1
      rw [List.getElem?_take] at h1 h2
      split at h1
      · rename_i hk
        rw [if_pos hk] at h2
        exact .inl ⟨k, c, h1, h2⟩
      · cases h1
    · exact .inr h
  have ex : Ext H' (Own α' μ') H' (Own ⟨α'.own.take n, α'.hid⟩ (μ'.take n)) := ⟨fun b o h m _ => ⟨h, fun z => m (ow z)⟩, fun _ _ h => h, fun _ _ _ h => h⟩
  refine ⟨⟨st.ext.trans ex, fun k a h => ?_, st.hid, st.keep⟩, ⟨?_, ?_, fun a h => S'.there a ?_, fun k c h => ?_, S'.tabs⟩, .refl _ _ _, ex⟩
  · have hk : k < α.own.length := (List.getElem?_eq_some_iff.mp h).1
    have hl := S.len
    show (α'.own.take n)[k]? = some a
    rw [List.getElem?_take, if_pos (by omega)]
    exact st.pre k a h
  · show (α'.own.take n).length = (μ'.take n).length
    rw [List.length_take, List.length_take, S'.len]
  · show (α'.own.take n ++ α'.hid).Nodup
    have h := S'.nd
    rw [List.nodup_append] at h ⊢
    exact ⟨h.1.sublist (List.take_sublist _ _), h.2.1, fun a ha b hb => h.2.2 a (List.mem_of_mem_take ha) b hb⟩
  · have h : a ∈ α'.own.take n ++ α'.hid := h
    rcases List.mem_append.mp h with h | h
    · exact List.mem_append_left _ (List.mem_of_mem_take h)
    · exact List.mem_append_right _ h
  · rw [List.getElem?_take] at h
    split at h
    · rename_i hk
      obtain ⟨a, h1, h2⟩ := S'.cell k c h
      refine ⟨a, ?_, ?_⟩
      · show (α'.own.take n)[k]? = some a
        rw [List.getElem?_take, if_pos hk]
        exact h1
      · exact h2.ext ex rfl
    · cases h
theorem fin_ok {C : Cv} {E : XK} {Q : VK} {D : Ends} {H : Hp} {α : Al} {μ : Sto} {r : RS} (S : Stor C H α μ) (hD : D.nx = (fun _ H' => Q .non H') ∧ D.rt = Q) (q : PQ C E Q H α μ (fin μ.length r)) : QS C E D H α μ r := by
  obtain ⟨h1, h2⟩ := hD
  cases r with
  | nx ρ μ' =>
    intro σ' H' α' st S' _
    rw [h1]
    obtain ⟨s2, S2, _, ex⟩ := stor_cut S st S' (Nat.le_refl _)
    exact q .non H' _ s2 S2 .non
  | bk ρ μ' => exact q.elim
  | ct ρ μ' => exact q.elim
  | no => exact q.elim
  | er x μ' =>
    intro cls d H' α' st S' rx
    obtain ⟨s2, S2, _, ex⟩ := stor_cut S st S' (Nat.le_refl _)
    exact q cls d H' _ s2 S2 rx
  | rt w μ' =>
    intro v H' α' st S' rv
    rw [h2]
    cases w with
    | d d =>
      obtain ⟨s2, S2, _, ex⟩ := stor_cut S st S' (Nat.le_refl _)
      exact q v H' _ s2 S2 (Rp.ext ex rv)
    | f x =>
      obtain ⟨s2, S2, _, ex⟩ := stor_cut S st S' (Nat.le_refl _)
      exact q v H' _ s2 S2 rv
    | x k => exact q.elim
    | m k =>
      obtain ⟨a, ha, rfl⟩ := rv
      have q : PQ C E Q H α μ (if k < μ.length then .ok (.m k) (μ'.take μ.length) else if k = μ.length then .ok (.m k) (μ'.take (μ.length + 1)) else .no) := q
      split at q
      · rename_i hk
        obtain ⟨s2, S2, _, ex⟩ := stor_cut S st S' (Nat.le_refl _)
        refine q _ H' _ s2 S2 ⟨a, ?_, rfl⟩
        show (α'.own.take μ.length)[k]? = some a
        rw [List.getElem?_take, if_pos hk]
        exact ha
      · split at q
        · rename_i hk
          obtain ⟨s2, S2, _, ex⟩ := stor_cut S st S' (Nat.le_succ _)
          refine q _ H' _ s2 S2 ⟨a, ?_, rfl⟩
          show (α'.own.take (μ.length + 1))[k]? = some a
          rw [List.getElem?_take, if_pos (by omega)]
          exact ha
        · exact q.elim
/-- THE RULE: a def whose body does what F says keeps the promise that F makes -/
theorem fn_ok {x : Str} {params : Arguments} {body : List Stmt} {scope : Scope} {dvs : List V} {kws : List (Str × V)} {f : Addr} {fd : FuncData} {N ps : List Str} {k : Nat} {F : SF} (Fu : FunD K x x params body scope dvs kws f fd) (S : FnScope N ps scope)
    (hbody : ∀ (cdv : Value) (A : Around) (outer : List PySem.Env) (s : Shared) (H : Hp) (E : XK), CK (cxOf (L2N.CX P w) P w K mg base N x scope f cdv A outer s H E) E k →
      PassesOwn (model P w) (cxOf (L2N.CX P w) P w K mg base N x scope f cdv A outer s H E).A (cxOf (L2N.CX P w) P w K mg base N x scope f cdv A outer s H E).env (cxOf (L2N.CX P w) P w K mg base N x scope f cdv A outer s H E).xe →
      DSs (cxOf (L2N.CX P w) P w K mg base N x scope f cdv A outer s H E) T E body F) : FnOk P w K mg base (L2N.CX P w) (k + 1) f fd ps (spD ⟨K, mg, T⟩ (fnOf ps.length N.length F)) := by
  refine Fu.ok S (fun vs H Q E h => ?_) fun cdv A outer s H vs Q E hr h => ?_
  · obtain ⟨ws, α, μ, S, rs, q⟩ := h
    unfold fnOf at q
    split at q
    · rename_i hl
      rw [rs.length]
      exact hl
    · exact q.elim
  · obtain ⟨ws, α, μ, St, rs, q⟩ := h
    have tk : L2N.Takes (cxOf (L2N.CX P w) P w K mg base N x scope f cdv A outer s H E) (fun cls d _ H => E cls d H) := L2N.takes_of rfl rfl rfl rfl
    refine ⟨_, hbody cdv A outer s H E ⟨rfl, S.nd, hr, tk⟩ (passes_of rfl), ?_⟩
    unfold fnOf at q
    split at q
    · rename_i hl
      refine ⟨startE N.length ws, α, μ, St, ⟨?_, ?_⟩, fin_ok (D := { nx := fun _ H' => Q .non H', rt := Q }) St ⟨rfl, rfl⟩ q⟩
      · have e := rs.length
        simp only [startE, L2.start, List.length_append, List.length_map, List.length_replicate, e]
      · have e := rs.length
        have z := Sl.start rs (N.length - ws.length)
        unfold startE L2.start
        rw [e]
        exact z
    · exact q.elim
theorem fn_okD {x : Str} {st : Stmt} {N ps : List Str} {k : Nat} {F : SF} (d : DefFact K mg x st ps) (S : FnScope N ps (defScope st))
    (hbody : ∀ (f : Addr) (cdv : Value) (A : Around) (outer : List PySem.Env) (s : Shared) (H : Hp) (E : XK), CK (cxOf (L2N.CX P w) P w K mg base N x (defScope st) f cdv A outer s H E) E k →
      PassesOwn (model P w) (cxOf (L2N.CX P w) P w K mg base N x (defScope st) f cdv A outer s H E).A (cxOf (L2N.CX P w) P w K mg base N x (defScope st) f cdv A outer s H E).env (cxOf (L2N.CX P w) P w K mg base N x (defScope st) f cdv A outer s H E).xe →
      DSs (cxOf (L2N.CX P w) P w K mg base N x (defScope st) f cdv A outer s H E) T E (defBody st) F) : HasFn P w K mg base T (k + 1) x (fnOf ps.length N.length F) := by
  obtain ⟨f, fd, dvs, kws, Fu, hm, hb⟩ := d.ex
  exact ⟨f, fd, ps, [], [], [], _, hm, Fu.kp, hb, .nil, fun _ _ => .nil, fun ws μ => by rw [List.map_nil, List.append_nil], fn_ok Fu S (hbody f)⟩
/-- .. called with less -/
theorem fn_ok1 {x : Str} {st : Stmt} {N ps : List Str} {k : Nat} {F : SF} {dd : List PyData} (d : DefFact1 K mg x st ps dd) (S : FnScope N ps (defScope st))
    (hbody : ∀ (f : Addr) (cdv : Value) (A : Around) (outer : List PySem.Env) (s : Shared) (H : Hp) (E : XK), CK (cxOf (L2N.CX P w) P w K mg base N x (defScope st) f cdv A outer s H E) E k →
      PassesOwn (model P w) (cxOf (L2N.CX P w) P w K mg base N x (defScope st) f cdv A outer s H E).A (cxOf (L2N.CX P w) P w K mg base N x (defScope st) f cdv A outer s H E).env (cxOf (L2N.CX P w) P w K mg base N x (defScope st) f cdv A outer s H E).xe →
      DSs (cxOf (L2N.CX P w) P w K mg base N x (defScope st) f cdv A outer s H E) T E (defBody st) F) : HasFn P w K mg base T (k + 1) x (fun ws μ => fnOf ps.length N.length F (ws ++ dd.map W.d) μ) := by
  obtain ⟨f, fd, dvs, kws, ds, Fu, hm, hb, hv, hd⟩ := d.ex
  exact ⟨f, fd, ps, ds, dvs, dd, _, hm, Fu.kp, hb, hv, hd, fun ws μ => rfl, fn_ok Fu S (hbody f)⟩
/-- a promise that asks too much -/
theorem fn_no {x : Str} {st : Stmt} {ps : List Str} {k : Nat} (d : DefFact K mg x st ps) : HasFn P w K mg base T k x (fun _ _ => .no) := by
  obtain ⟨f, fd, dvs, kws, Fu, hm, hb⟩ := d.ex
  exact ⟨f, fd, ps, [], [], [], fun _ _ => .no, hm, Fu.kp, hb, .nil, fun _ _ => .nil, fun ws μ => rfl, ⟨fun vs H Q E h => by
    obtain ⟨ws, α, μ, S, rs, q⟩ := h
    exact q.elim, fun A outer s H args us vs Q E _ _ _ _ h => by
    obtain ⟨ws, α, μ, S, rs, q⟩ := h
    exact q.elim⟩⟩
end
end L3

set_option Elab.async false
set_option linter.all false
set_option maxRecDepth 100000
set_option maxHeartbeats 2000000
/-! While an exception is handled: iterators that end, unpacking, comprehensions over zip. -/
namespace HotY
open PySem PySem.Spec PyProof.Rows L2 HotX L2H
section
variable {prog : Program} {w : World} {A : Around} {E : Value → Shared → Prop} {s : Shared}
theorem HotAt.keep {x1 : Addr} {h h' : Heap} (hot : HotAt A x1 h) (k : ∀ o, h.get? x1 = some o → h'.get? x1 = some o) : HotAt A x1 h' := by
  obtain ⟨hh, o, vs, h1, d1, c1⟩ := hot
  exact ⟨hh, o, vs, k o h1, d1, c1⟩
theorem HotAt.ne {x1 b : Addr} {h : Heap} {o : Obj} {vs : Array Value} (hot : HotAt A x1 h) (hb : h.get? b = some o) (hd : o.data = .fields vs) (hn : vs[2]? ≠ some .none) : x1 ≠ b := fun e => by
  obtain ⟨hh, o1, vs1, h1, d1, c1⟩ := hot
  rw [e, hb] at h1
  cases h1
  rw [hd] at d1
  cases d1
  exact hn c1
theorem HotAt.neL {x1 it l : Addr} {i : Nat} {h : Heap} (hot : HotAt A x1 h) (hit : h.IsListIter it l i) : x1 ≠ it := by
  obtain ⟨o, ho, hc, hd⟩ := hit
  exact HotAt.ne hot ho hd (by simp)
theorem HotAt.neT {x1 it l : Addr} {i : Nat} {h : Heap} (hot : HotAt A x1 h) (hit : IsTupIter h it l i) : x1 ≠ it := by
  obtain ⟨o, ho, hc, hd⟩ := hit
  exact HotAt.ne hot ho hd (by simp)
/-- StopIteration raised while an exception is handled -/
theorem stop_hot {α : Type} {x1 : Addr} {Q : α → Shared → Prop} (hot : HotAt A x1 s.heap)
    (hE : ∀ h' e, (∀ b o, s.heap.get? b = some o → h'.get? b = some o) → (∃ o, h'.get? e = some o ∧ o.cls = .type "StopIteration") → E (.ref e) { s with heap := h' }) :
    wpAny (model prog w) A ((newExc (.type "StopIteration") [] >>= fun e => raiseNew e) : Sem α) Q E s := by
  refine wpAny_bind ?_
  simp only [newExc, newTuple]
  refine wpAny_bind (wpAny_newObj_type ?_ (by size_fits))
  refine wpAny_bind (m := firstArgMember _ _) (wpAny_of_eq (a := Value.none) (by first | rfl | (simp only [firstArgMember]; rfl)) ?_)
  refine wpAny_newObj_type ?_ (by size_fits)
  obtain ⟨hh, o1, vs1, h1, d1, c1⟩ := hot
  refine raiseNew_hot ⟨hh, o1, vs1, Heap.get?_push_of_some _ (Heap.get?_push_of_some _ h1), d1, c1⟩ (Nat.ne_of_lt (Heap.lt_size (Heap.get?_push_of_some _ h1))) (Heap.get?_push_size _ rfl) rfl (by first | (simp; done) | (simp; omega) | (simp only [Array.size_append]; simp; omega)) ?_
  refine hE _ _ (fun b o e => ?_) ⟨_, Heap.get?_update_self _ (Heap.get?_push_size _ rfl) rfl, rfl⟩
  rw [Heap.get?_update_other _ _ (Nat.ne_of_gt (Heap.lt_size (Heap.get?_push_of_some _ e)))]
  exact Heap.get?_push_of_some _ (Heap.get?_push_of_some _ e)
theorem nextOf_list_end_hot {it l x1 : Addr} {i : Nat} {items} {Q : Value → Shared → Prop} (hot : HotAt A x1 s.heap)
    (hit : s.heap.IsListIter it l i) (hl : s.heap.IsList l items) (hx : items[i]? = none)
    (hE : ∀ h' e, Heap.ExtBut it s.heap h' → (∃ o, h'.get? e = some o ∧ o.cls = .type "StopIteration") → E (.ref e) { s with heap := h' }) :
    wpAny (model prog w) A (Builtin.SmallTypes.nextOf (.ref it)) Q E s := by
  have hne := HotAt.neL hot hit
  obtain ⟨o, ho, hc, hd⟩ := id hit
  obtain ⟨ol, hol, _, nl, hdl⟩ := hl
  unfold Builtin.SmallTypes.nextOf
  refine wpAny_bind (wpAny_callSpecial?_slot (name := Str.ofString "__next__") hit.typeIs slot_listiter_next
    (wpAny_call_entry slot_listiter_next hit.typeIs entry_listiter_next ?_ (args_listiter_next _)))
  show wpAny _ _ (field (.ref it) 0 >>= _) _ _ s
  refine wpAny_bind (wpAny_field ho hd (x := .ref l) rfl ?_)
  show wpAny _ _ (if (Value.ref l == Value.none) = true then _ else _) _ _ s
  rw [if_neg (show ¬ ((Value.ref l == Value.none) = true) from Bool.false_ne_true)]
  show wpAny _ _ (field (.ref it) 1 >>= _) _ _ s
  refine wpAny_bind (wpAny_field ho hd (x := .int i 0) rfl ?_)
  show wpAny _ _ (seqItems? (.ref l) >>= _) _ _ s
  refine wpAny_bind (wpAny_seqItems hol hdl ?_)
  simp only [Int.toNat_natCast, hx]
  refine wpAny_bind (wpAny_rule (wpAny_bind (wpAny_setField ho hd (by simp) ?_)))
  refine stop_hot (x1 := x1) (HotAt.keep (h' := s.heap.update it (Obj.mapFields (·.setIfInBounds 0 .none))) hot fun o1 e1 => ?_) fun h' e k st => hE h' e (fun b o1 hb e1 => k b o1 ?_) st
  · rw [Heap.get?_update_other _ _ (Ne.symm hne)]; exact e1
  · show (s.heap.update it _).get? b = _
    rw [Heap.get?_update_other _ _ (Ne.symm hb)]; exact e1
theorem next_tuple_end_hot {it t x1 : Addr} {i : Nat} {items} {Q : Option Value → Shared → Prop} (hot : HotAt A x1 s.heap)
    (hit : IsTupIter s.heap it t i) (ht : IsTup s.heap t items) (hx : items[i]? = none)
    (hQ : ∀ h', Heap.ExtBut it s.heap h' → Q none { s with heap := h' }) : wpAny (model prog w) A (pyNext (.ref it)) Q E s := by
  have hne := HotAt.neT hot hit
  obtain ⟨o, ho, hc, hd⟩ := id hit
  obtain ⟨ol, hol, _, nl, hdl⟩ := ht
  unfold pyNext
  refine wpAny_bind (wpAny_attempt (wpAny_callSpecial?_slot (name := Str.ofString "__next__") hit.typeIs slot_tupleiter_next
    (wpAny_call_entry slot_tupleiter_next hit.typeIs entry_tupleiter_next ?_ (args_tupleiter_next _))))
  show wpAny _ _ (field (.ref it) 0 >>= _) _ _ s
  refine wpAny_bind (wpAny_field ho hd (x := .ref t) rfl ?_)
  show wpAny _ _ (if (Value.ref t == Value.none) = true then _ else _) _ _ s
  rw [if_neg (show ¬ ((Value.ref t == Value.none) = true) from Bool.false_ne_true)]
  show wpAny _ _ (field (.ref it) 1 >>= _) _ _ s
  refine wpAny_bind (wpAny_field ho hd (x := .int i 0) rfl ?_)
  show wpAny _ _ (seqItems? (.ref t) >>= _) _ _ s
  refine wpAny_bind (wpAny_seqItems hol hdl ?_)
  simp only [Int.toNat_natCast, hx]
  refine wpAny_bind (wpAny_rule (wpAny_bind (wpAny_setField ho hd (by simp) ?_)))
  refine stop_hot (x1 := x1) (HotAt.keep (h' := s.heap.update it (Obj.mapFields (·.setIfInBounds 0 .none))) hot fun o1 e1 => ?_) fun h' e k st => ?_
  · rw [Heap.get?_update_other _ _ (Ne.symm hne)]; exact e1
  · obtain ⟨oe, he, hce⟩ := st
    refine wpAny_bind (wpAny_isInstance (T := "StopIteration") (b := true) ⟨_, he, hce⟩ isSubtype_stop ?_)
    refine wpAny_pure (hQ _ fun b o1 hb e1 => k b o1 ?_)
    show (s.heap.update it _).get? b = _
    rw [Heap.get?_update_other _ _ (Ne.symm hb)]; exact e1
theorem unpackItems_tuple_hot {t x1 : Addr} {items : Array Value} {Q : List Value → Shared → Prop} (hot : HotAt A x1 s.heap) (ht : IsTup s.heap t items)
    (hQ : ∀ h', Heap.ExtBut s.heap.objs.size s.heap h' → Q items.toList { s with heap := h' }) : wpAny (model prog w) A (unpackItems (.ref t) items.size none) Q E s := by
  have hlt : t ≠ s.heap.objs.size := by obtain ⟨o, ho, _⟩ := ht; exact Nat.ne_of_lt (Heap.lt_size ho)
  unfold unpackItems
  refine wpAny_bind ?_
  · unfold notIterableAtAll
    refine wpAny_bind (wpAny_specialOf ht.typeIs slot_tuple_iter.lookup ?_)
    refine wpAny_pure ?_
    simp only [Bool.false_eq_true, if_false]
    refine wpAny_bind (wpAny_holding (iter_tuple ht ?_))
    refine wpAny_bind (wpAny_holding (draw_tuple hlt items.size 0 _ _ ⟨_, Heap.get?_push_size _ rfl, rfl, rfl⟩ (ht.push _) (by omega) fun h₁ hit₁ hs₁ => ?_))
    have hall : List.take items.size (List.drop 0 items.toList) = items.toList := by
      rw [List.drop_zero]; exact List.take_of_length_le (by simp)
    rw [hall]
    rw [if_neg (by simp)]
    have ht₁ : IsTup h₁ t items := (ht.push _).extBut hs₁.extBut hlt
    have hot1 : HotAt A x1 h₁ := HotAt.keep hot fun o e => hs₁.extBut _ _ (Nat.ne_of_lt (Heap.lt_size e)) (Heap.get?_push_of_some _ e)
    refine wpAny_bind (wpAny_holding (next_tuple_end_hot (s := { s with heap := h₁ }) hot1 hit₁ ht₁ (by simp) fun h₂ he₂ => ?_))
    simp only [Option.isSome_none, Bool.false_eq_true, if_false]
    refine wpAny_pure (hQ h₂ fun b o hb e => he₂ b o hb (hs₁.extBut b o hb (Heap.get?_push_of_some _ e)))
theorem assign_Tuple_tuple_hot {env : Env} {elts : List Expr} {k} {pos : Pos} {t x1 : Addr} {items : Array Value} {Q : Unit → Shared → Prop} (hot : HotAt A x1 s.heap) (ht : IsTup s.heap t items)
    (hn : (assignEach elts env).length = items.size) (hstar : (assignEach elts env).findIdx? (·.1) = none)
    (h : ∀ h', Heap.ExtBut s.heap.objs.size s.heap h' → wpAny (model prog w) A (assignInOrder ((assignEach elts env).map (·.2)) items.toList) Q E { s with heap := h' }) :
    wpAny (model prog w) A (assign (.Tuple elts k pos) env (.ref t)) Q E s := by
  rw [assign_Tuple]
  refine wpAny_bind (wpAny_standAt ?_)
  unfold unpack
  rw [hn, hstar]
  exact wpAny_bind (wpAny_holding (unpackItems_tuple_hot hot ht h))
theorem zip_next_end_hot {x1 z TI TO i1 i2 l1 l2 : Addr} {k1 k2 : Nat} {xs ys : Array Value} {a b : Value} {Q : Fin → Shared → Prop} (hot : HotAt A x1 s.heap) (D : ZipApart z TI TO i1 i2 l1 l2)
    (hz : IsZip s.heap z TI TO .none) (hTI : IsPair s.heap TI (.ref i1) (.ref i2)) (hTO : IsPair s.heap TO a b)
    (h1 : s.heap.IsListIter i1 l1 k1) (h2 : s.heap.IsListIter i2 l2 k2) (hl1 : s.heap.IsList l1 xs) (hl2 : s.heap.IsList l2 ys) (hend : xs[k1]? = none ∨ ys[k2]? = none)
    (hE : ∀ h' e, (∀ c o, c ≠ z → c ≠ TO → c ≠ i1 → c ≠ i2 → s.heap.get? c = some o → h'.get? c = some o) → (∃ o, h'.get? e = some o ∧ o.cls = .type "StopIteration") → E (.ref e) { s with heap := h' }) :
    wpAny (model prog w) A (Builtin.«zip.__next__» ⟨[.ref z], []⟩) Q E s := by
  have nz : x1 ≠ z := HotAt.ne hot hz rfl (by simp)
  have n1 := HotAt.neL hot h1
  have n2 := HotAt.neL hot h2
  have nTO : x1 ≠ TO := fun e => by
    obtain ⟨hh, o1, vs1, e1, d1, c1⟩ := hot
    rw [e, hTO] at e1
    cases e1
    cases d1
  show wpAny _ _ (field (.ref z) 2 >>= _) _ _ _
  refine wpAny_bind (wpAny_field hz rfl (x := .bool false) rfl ?_)
  show wpAny _ _ (field (.ref z) 3 >>= _) _ _ _
  refine wpAny_bind (wpAny_field hz rfl (x := .ref TI) rfl ?_)
  refine wpAny_bind (wpAny_seqItems hTI rfl ?_)
  show wpAny _ _ (Builtin.SmallTypes.ownedTupleIsFree (.ref z) >>= _) _ _ _
  refine wpAny_bind ?_
  unfold Builtin.SmallTypes.ownedTupleIsFree
  refine wpAny_bind (wpAny_field hz rfl (x := .none) rfl (wpAny_pure ?_))
  simp only [if_true]
  refine wpAny_bind (wpAny_rule ?_)
  refine wpAny_bind (wpAny_field hz rfl (x := .ref TO) rfl ?_)
  refine wpAny_bind (wpAny_setField_rec hz (by simp) fun h₁ hz₁ hs₁ => ?_)
  replace hz₁ : IsZip h₁ z TI TO .ellipsis := hz₁
  have hot1 : HotAt A x1 h₁ := HotAt.keep hot fun o e => hs₁.extBut _ _ nz e
  refine wpAny_bind ?_
  simp only [List.zipIdx_cons, List.zipIdx_nil, List.forIn_cons, List.forIn_nil]
  refine wpAny_bind (wpAny_bind (wpAny_onRaise ?_))
  show wpAny _ _ (Builtin.SmallTypes.nextOf (.ref i1) >>= _) _ _ _
  cases hx : xs[k1]? with
  | none =>
    refine wpAny_bind (nextOf_list_end_hot (x1 := x1) (s := { s with heap := h₁ }) hot1 (h1.extBut hs₁.extBut D.i1z) (hl1.extBut hs₁.extBut D.l1z) hx fun h₂ e hs₂ he => ?_)
    obtain ⟨oe, hoe, hce⟩ := he
    have hz₂ : IsZip h₂ z TI TO .ellipsis := hs₂ _ _ D.i1z.symm hz₁
    have hez : e ≠ z := fun x => by subst x; rw [hz₂] at hoe; cases hoe; simp at hce
    refine wpAny_setField_rec hz₂ (by simp) fun h₃ _ hs₃ => hE h₃ e (fun c o c1 _ c3 _ x => hs₃.extBut _ _ c1 (hs₂ _ _ c3 (hs₁.extBut _ _ c1 x))) ⟨oe, hs₃.extBut _ _ hez hoe, hce⟩
  | some x =>
    have hy : ys[k2]? = none := by rcases hend with h | h; rw [hx] at h; cases h; exact h
    refine wpAny_bind (wpAny_nextOf_list_item (h1.extBut hs₁.extBut D.i1z) (hl1.extBut hs₁.extBut D.l1z) hx fun h₂ h1₂ hs₂ => wpAny_pure ?_)
    have hTO₂ : IsPair h₂ TO a b := hs₂.extBut _ _ D.TOi1 (hs₁.extBut _ _ D.TOz hTO)
    refine wpAny_bind (wpAny_seqItems hTO₂ rfl ?_)
    refine wpAny_bind (wpAny_updateSeq_pair hTO₂ fun h₃ hTO₃ hs₃ => ?_)
    refine wpAny_bind (wpAny_letGo (wpAny_pure ?_))
    refine wpAny_bind (wpAny_bind (wpAny_onRaise ?_))
    show wpAny _ _ (Builtin.SmallTypes.nextOf (.ref i2) >>= _) _ _ _
    have hot3 : HotAt A x1 h₃ := HotAt.keep hot1 fun o e => hs₃.extBut _ _ nTO (hs₂.extBut _ _ n1 e)
    refine wpAny_bind (nextOf_list_end_hot (x1 := x1) (s := { s with heap := h₃ }) hot3 (((h2.extBut hs₁.extBut D.i2z).extBut hs₂.extBut D.i12.symm).extBut hs₃.extBut D.TOi2.symm)
      (((hl2.extBut hs₁.extBut D.l2z).extBut hs₂.extBut D.l2i1).extBut hs₃.extBut D.l2TO) hy fun h₄ e hs₄ he => ?_)
    obtain ⟨oe, hoe, hce⟩ := he
    have hz₄ : IsZip h₄ z TI TO .ellipsis := hs₄ _ _ D.i2z.symm (hs₃.extBut _ _ D.TOz.symm (hs₂.extBut _ _ D.i1z.symm hz₁))
    have hez : e ≠ z := fun x => by subst x; rw [hz₄] at hoe; cases hoe; simp at hce
    refine wpAny_setField_rec hz₄ (by simp) fun h₅ _ hs₅ => hE h₅ e (fun c o c1 c2 c3 c4 x => hs₅.extBut _ _ c1 (hs₄ _ _ c4 (hs₃.extBut _ _ c2 (hs₂.extBut _ _ c3 (hs₁.extBut _ _ c1 x))))) ⟨oe, hs₅.extBut _ _ hez hoe, hce⟩
theorem pyNext_zip_end_hot {x1 z TI TO i1 i2 l1 l2 : Addr} {k1 k2 : Nat} {xs ys : Array Value} {a b : Value} {Q : Option Value → Shared → Prop} (hot : HotAt A x1 s.heap) (D : ZipApart z TI TO i1 i2 l1 l2)
    (hz : IsZip s.heap z TI TO .none) (hTI : IsPair s.heap TI (.ref i1) (.ref i2)) (hTO : IsPair s.heap TO a b)
    (h1 : s.heap.IsListIter i1 l1 k1) (h2 : s.heap.IsListIter i2 l2 k2) (hl1 : s.heap.IsList l1 xs) (hl2 : s.heap.IsList l2 ys) (hend : xs[k1]? = none ∨ ys[k2]? = none)
    (hQ : ∀ h', (∀ c o, c ≠ z → c ≠ TO → c ≠ i1 → c ≠ i2 → s.heap.get? c = some o → h'.get? c = some o) → Q none { s with heap := h' }) : wpAny (model prog w) A (pyNext (.ref z)) Q E s := by
  have hT : s.TypeIs (.ref z) "zip" := ⟨_, hz, rfl⟩
  unfold pyNext
  refine wpAny_bind (wpAny_attempt (wpAny_callSpecial?_slot (name := Str.ofString "__next__") hT F.slot_zip_next
    (wpAny_call_entry F.slot_zip_next hT F.entry_zip_next (zip_next_end_hot (x1 := x1) hot D hz hTI hTO h1 h2 hl1 hl2 hend fun h' e hk he => ?_) (F.args_zip_next_1 _))))
  obtain ⟨o, ho, hc⟩ := he
  refine wpAny_bind (wpAny_isInstance (T := "StopIteration") (b := true) ⟨o, ho, hc⟩ isSubtype_stop ?_)
  exact wpAny_pure (hQ _ hk)
end
/-! ### rules -/
section
variable {X : Cx} {pos : Pos}
theorem pg_tupH {es : List Expr} {k : Nat} {t : TGs} {n : Nat} (hc : HotC X) (h : PGs X es t)
    (hn : (assignEach es X.env).length = n := by rfl) (hst : (assignEach es X.env).findIdx? (·.1) = none := by rfl) : PG X (.Tuple es k pos) (gTup X.K n t) := by
  refine ⟨fun pins s σ H v u Q I r hw => ?_⟩
  obtain ⟨a, xs, e1, hq, hl, hw⟩ := hw
  subst e1
  cases r
  obtain ⟨its, rv, ht, hz⟩ := I.tuple hq
  obtain ⟨x1, hot⟩ := hc.at I
  refine assign_Tuple_tuple_hot hot ht (by simp [hn, ← hl, rv.length]) hst fun h' hx => ?_
  have I1 : Inv X pins σ H { s with heap := h' } := I.kept (t' := s.toks) fun b o e => hx b o (Nat.ne_of_lt (Heap.lt_size e)) e
  exact h.run pins _ σ H xs _ Q I1 (by simpa using rv) hw
theorem turn_zipH {P : Program} {w : World} {K : PySem.W.Frag} {elts : List Expr} {kk : Nat} {tpos : Pos} {a b z TI TO i1 i2 : Addr} (D : ZipApart z TI TO i1 i2 a b) :
    TurnH P w K (.Tuple elts kk tpos) (Itz K a b) [z, TI, TO, i1, i2] z (fun i h => IsZip h z TI TO .none ∧ IsPair h TI (.ref i1) (.ref i2) ∧ (∃ x y, IsPair h TO x y) ∧ h.IsListIter i1 a i ∧ h.IsListIter i2 b i) where
  mem := by simp
  obj := (turn_zip (P := P) (w := w) (K := K) (elts := elts) (kk := kk) (tpos := tpos) D).obj
  keep := (turn_zip (P := P) (w := w) (K := K) (elts := elts) (kk := kk) (tpos := tpos) D).keep
  item := by
    intro X hP hw hK hc i pins s σ H E I hf st hg
    subst hP hw hK
    obtain ⟨hz, hTI, ⟨x0, y0, hTO⟩, h1, h2⟩ := st
    obtain ⟨xs, ys, x, y, hqx, hqy, hx, hy⟩ := hg
    obtain ⟨its, rv, p, _⟩ := I.list hqx
    obtain ⟨its2, rv2, p2, _⟩ := I.list hqy
    obtain ⟨u, hu, ru⟩ := rv.get hx
    obtain ⟨u2, hu2, ru2⟩ := rv2.get hy
    have hzl : z < s.heap.objs.size := Heap.lt_size hz
    refine wpAny_pyNext_zip_item D hz hTI hTO h1 h2 p.isList p2.isList (x := u) (y := u2) (by simpa using hu) (by simpa using hu2) fun h' z' TO' h1' h2' hT hsz hk => ?_
    refine ⟨_, rfl, wpAny_letOwnedTupleGo_zip (s := { s with heap := h' }) z' fun h'' z'' sb => ?_⟩
    have hT2 : h''.get? s.heap.objs.size = some { cls := .type "tuple", data := .seq #[u, u2] } := (sb.2 _ (Nat.ne_of_gt hzl)).trans hT
    have new : ObjOk X.prog X.w (upd H s.heap.objs.size (.tup [x, y])) h'' s.heap.objs.size (.tup [x, y]) :=
      ⟨by show 2 ≤ sizeLine; decide, [u, u2], .cons ru (.cons ru2 .nil), ⟨_, hT2, rfl, _, rfl⟩⟩
    have I1 : Inv X pins σ (upd H s.heap.objs.size (.tup [x, y])) { s with heap := h'' } :=
      I.turnedNew (t' := s.toks) (ch := [z, TI, TO, i1, i2]) (fun c o hb q => (sb.2 c (fun q' => hb (by simp [q']))).trans (hk c o (fun q' => hb (by simp [q'])) (fun q' => hb (by simp [q'])) (fun q' => hb (by simp [q'])) (fun q' => hb (by simp [q'])) q)) hf (Nat.le_refl _) new
    refine ⟨.ref s.heap.objs.size, _, I1, rfl, ⟨_, x, y, rfl, I.hok.fresh (Nat.le_refl _), rfl, fun l hl => by rw [I.list_inj hl hqx]; exact hx, fun l hl => by rw [I.list_inj hl hqy]; exact hy⟩, ⟨z'', ?_, ⟨u, u2, ?_⟩, ?_, ?_⟩, fun c hcm => ?_⟩
    · exact (sb.2 _ D.TIz).trans (hk _ _ D.TIz D.TITO D.TIi1 D.TIi2 hTI)
    · exact (sb.2 _ D.TOz).trans TO'
    · exact h1'.at fun o q => (sb.2 _ D.i1z).trans q
    · exact h2'.at fun o q => (sb.2 _ D.i2z).trans q
    · have hlt : c < s.heap.objs.size := by
        have e' : c = z ∨ c = TI ∨ c = TO ∨ c = i1 ∨ c = i2 := by simpa using hcm
        rcases e' with q | q | q | q | q
        · rw [q]; exact hzl
        · rw [q]; exact Heap.lt_size hTI
        · rw [q]; exact Heap.lt_size hTO
        · rw [q]; obtain ⟨_, e1, _⟩ := h1; exact Heap.lt_size e1
        · rw [q]; obtain ⟨_, e2, _⟩ := h2; exact Heap.lt_size e2
      rw [upd_ne (Nat.ne_of_lt hlt)]
      exact (hf c hcm).1
  done := by
    intro X hP hw hK hc i pins s σ H E I hf st hg
    subst hP hw hK
    obtain ⟨hz, hTI, ⟨x0, y0, hTO⟩, h1, h2⟩ := st
    obtain ⟨xs, ys, hqx, hqy, hend⟩ := hg
    obtain ⟨its, rv, p, _⟩ := I.list hqx
    obtain ⟨its2, rv2, p2, _⟩ := I.list hqy
    have l1 := rv.length
    have l2 := rv2.length
    have he : its.toArray[i]? = none ∨ its2.toArray[i]? = none := by
      rcases hend with q | q
      · exact .inl (by simp; omega)
      · exact .inr (by simp; omega)
    obtain ⟨x1, hot⟩ := hc.at I
    exact pyNext_zip_end_hot hot D hz hTI hTO h1 h2 p.isList p2.isList he fun h' hk => ⟨rfl, I.turnedL (t' := s.toks) (ch := [z, TI, TO, i1, i2]) (fun c o hb q =>
      hk c o (fun q' => hb (by simp [q'])) (fun q' => hb (by simp [q'])) (fun q' => hb (by simp [q'])) (fun q' => hb (by simp [q'])) q) hf⟩
  self := fun A i s Q E st h => wpAny_pyIter_zip st.1 h
theorem pi_zipH {e e2 : Expr} {ta : TA} {p tpos : Pos} {elts : List Expr} {kk : Nat} (hg : Gl X "zip") (hm : X.mg "zip" = none) (ha : PA X [e, e2] ta)
    (hs : starEach [e, e2] X.env = (false, eval e X.env) :: starEach [e2] X.env := by rfl) (hpl : (backTo pos (starEach [e2] X.env)).any (·.1) = false := by rfl) :
    PIH X (.Tuple elts kk tpos) (.Call (.Name "zip" p) [e, e2] [] pos) (iZip X.K ta) := by
  refine ⟨fun pins s σ H R I h => ?_⟩
  refine Call_ (ld_blt I hg hm PyProof.Rows.boot_zip (PyProof.Rows.callWith_type1 (thn (ha.run pos pins s σ H _ I h) fun us s1 ⟨vs, H1, I1, r1, q1⟩ => ?_) hs hpl))
  obtain ⟨a, b, xs, ys, ex, hqx, hqy, q⟩ := q1
  subst ex
  cases r1 with
  | cons r rr =>
    cases rr with
    | cons r' rr =>
      cases rr
      cases r
      cases r'
      obtain ⟨its, rv, p1, _⟩ := I1.list hqx
      obtain ⟨its2, rv2, p2, _⟩ := I1.list hqy
      refine call_zip_2 p1.isList p2.isList fun h' hz hTI hTO h1 h2 hsz hk => wpAny_pyIter_zip hz ?_
      have I2 : Inv X pins σ H1 { s1 with heap := h' } := I1.kept (t' := s1.toks) hk
      refine ⟨s1.heap.objs.size + 4, [s1.heap.objs.size + 4, s1.heap.objs.size + 2, s1.heap.objs.size + 3, s1.heap.objs.size, s1.heap.objs.size + 1], _, _, H1, rfl, I2, turn_zipH (PySem.W.ktu_apart s1.heap.objs.size a b p1.lt p2.lt), ⟨hz, hTI, ⟨_, _, hTO⟩, h1, h2⟩, fun c hcm => ?_, q⟩
      have e' : c = s1.heap.objs.size + 4 ∨ c = s1.heap.objs.size + 2 ∨ c = s1.heap.objs.size + 3 ∨ c = s1.heap.objs.size ∨ c = s1.heap.objs.size + 1 := by simpa using hcm
      have hle : s1.heap.objs.size ≤ c := by
        rcases e' with z | z | z | z | z
        · rw [z]; exact Nat.le_add_right _ _
        · rw [z]; exact Nat.le_add_right _ _
        · rw [z]; exact Nat.le_add_right _ _
        · rw [z]; exact Nat.le_refl _
        · rw [z]; exact Nat.le_add_right _ _
      exact I1.fpOk hle (I1.hok.fresh hle)
/-- isinstance(e, c), e the exception that is pinned -/
theorem call_isP {a D : Addr} {oe : Obj} (C : ExcC X.K D) (hz : Zc (.ref D) none oe) (hf : ∃ vs, oe.data = .fields vs) (hp : (a, oe) ∈ X.pn) : CallR X (.builtin "isinstance") (rIsE X.K D a) := by
  intro pins s σ H xs us Q I r h
  obtain ⟨c, cv, b, rfl, hcv, e, q⟩ := h
  cases r with
  | cons rx rr =>
    cases rr with
    | cons rt rr =>
      cases rr
      cases rx
      have ec := hcv _ rt
      subst ec
      obtain ⟨hget, _⟩ := I.pin (a, oe) (List.mem_append.mpr (.inl hp))
      obtain ⟨vs, hv⟩ := hf
      have J : PySem.W.InstAt s.heap a oe D none := by
        obtain ⟨oc, od, oda, osl⟩ := oe
        obtain ⟨h1, h2⟩ := hz
        dsimp only at h1 h2 hv
        subst h1 h2 hv
        exact ⟨hget, rfl, rfl, trivial⟩
      exact PySem.W.kia_one (PySem.W.handS_kitx_exc C.hg C.hk C.hs C.hd C.ha C.hn C.ht C.hm) I.kIn J e (fun z => nomatch z) fun tk => ⟨.bl b, H, I.kept (t' := tk) fun _ _ z => z, rfl, q⟩
end
/-! ### comprehensions -/
abbrev blkH (X : Cx) (p : Addr × Obj) (s : Shared) (H : Hp) (scope : Scope) (cenv : Env) (fp : List Addr) : Cx := (X.blk s H scope cenv fp).tr [p] (fun _ _ => False)
section
variable {X : Cx} {pos : Pos}
theorem block_startH {pins : List (Addr × Obj)} {σ : L2.St} {H : Hp} {s : Shared} {scope : Scope} {own : List (Str × Nat)} {fp : List Addr} {p0 : Addr × Obj} (hot : Hot1 X.A p0) (hp0 : p0 ∈ X.pn) (I : Inv X pins σ H s) (ok : BlkOk X.N X.env.scope scope own) (hN : X.N.Nodup) (hfp : ∀ b ∈ fp, FpOk X pins H b ∧ b < s.heap.objs.size) :
    Inv (blkH X p0 s H scope (compEnvC scope (cellsFrom (s.heap.objs.size + 1) scope.names (cloFrom X.env.cells scope.names [])) s.heap.objs.size X.env) fp) [] (wipe σ (own.map (·.2))) H { s with heap := pushCells (s.heap.push { cls := .type "dict", data := .dict #[] }) scope.names } := by
  have J := block_start I ok hN hfp
  have P0 := I.pin p0 (List.mem_append_left _ hp0)
  refine ⟨J.ok.toTry _ _, J.os, J.bare, J.base, J.loc, J.cell, J.free, J.freeC, fun p hp => ?_, J.hok, J.len⟩
  have e : p = p0 := by simpa using (show p ∈ [p0] ++ ([] : List (Addr × Obj)) from hp)
  rw [e]
  refine ⟨pushCells_keeps _ _ _ _ (Heap.get?_push_of_some _ P0.1), P0.2.1, Nat.ne_of_lt (Heap.lt_size P0.1), fun hm => ?_, P0.2.2.2.2⟩
  exact (List.mem_cons.mp (I.stkSub p0.1 hm)).elim P0.2.2.1 P0.2.2.2.1
theorem lc_coreH {pins : List (Addr × Obj)} {s : Shared} {σ : L2.St} {H : Hp} {Q : VK} {elt tg iter : Expr} {ifs : List Expr} {scope : Scope} {own : List (Str × Nat)} {pos pos' : Pos} {wi : TI} {g : TG} {tt : TT} {te : TE} {use : Option (Value → Sem Unit)} {Qf : Value → Shared → Prop}
    {p0 : Addr × Obj} (hot : Hot1 X.A p0) (hp0 : p0 ∈ X.pn) (hN : X.N.Nodup) (I : Inv X pins σ H s) (hi : PIH X tg iter wi) (ok : BlkOk X.N X.env.scope scope own)
    (hg : ∀ (s : Shared) (H : Hp) (C : Addr) (cl : List (Str × Addr)) (fp : List Addr), PG (blkH X p0 s H scope (compEnvC scope cl C X.env) fp) tg g) (ht : ∀ (s : Shared) (H : Hp) (C : Addr) (cl : List (Str × Addr)) (fp : List Addr), PTs (blkH X p0 s H scope (compEnvC scope cl C X.env) fp) ifs tt)
    (he : ∀ (s : Shared) (H : Hp) (C : Addr) (cl : List (Str × Addr)) (fp : List Addr), PE (blkH X p0 s H scope (compEnvC scope cl C X.env) fp) elt te) (hs : ∀ x, foldedSetIterable iter X.env x = pure x)
    (h : tLc wi g tt te (own.map (·.2)) σ H Q)
    (hRR : ∀ D C s' m H', Inv X pins σ H' s' → Q (.ref D) H' → s'.heap.Ns C m → FpOk X pins H' C → compPost (model X.prog X.w) X.A X.xe use Qf (.ref D) C (.ok .next) s') :
    wpAny (model X.prog X.w) X.A (comprehension (.ListComp elt [⟨tg, iter, ifs, 0⟩] scope pos) scope X.env pos' (newList []) false (eval iter X.env) use) Qf X.xe s := by
  have hfree : ∀ y ∈ scope.names, y.2 = .free → ∃ c, X.env.cells.lookup y.1 = some c := fun y hy e => by
    rcases ok.free y hy e with k | k
    · exact I.ok.has _ (.inl k)
    · exact I.ok.has _ (.inr k)
  refine wpAny_comprehension_free (use := use) rfl hs (closure_ok hfree) ok.kind (fun y hy e => by rw [ok.uniq y hy, e])
    (thn (hi.run pins s σ H _ I h) fun xv s1 hx => thn hx fun itv s2 h2 => ?_)
  obtain ⟨it, fp, tn, J, H2, e, I2, T, st2, f2, q⟩ := h2
  subst e
  refine wpAny_newObj_type (newEnv_comp ?_) (by show 0 ≤ sizeLine; decide)
  generalize hD : s2.heap.objs.size = D
  have hDn : H2 D = none := I2.hok.fresh (Nat.le_of_eq hD)
  obtain ⟨W, ⟨m0, w0⟩, turn⟩ := q D hDn
  -- the new list
  generalize hs3 : ({ s2 with heap := s2.heap.push { cls := .type "list", data := .seq ([] : List Value).toArray } } : Shared) = s3
  have I3 : Inv X pins σ (upd H2 D (.lst [])) s3 := by
    rw [← hs3]
    refine I2.laid (t' := s2.toks) (fun b o e => Heap.get?_push_of_some _ e) (Nat.le_of_eq hD) ⟨Nat.zero_le _, [], 0, .nil, ?_⟩
    rw [← hD]
    exact Heap.get?_push_size _ rfl
  have h3 : s3.heap = s2.heap.push { cls := .type "list", data := .seq ([] : List Value).toArray } := by rw [← hs3]
  have sz : ∀ b ∈ fp, b < s2.heap.objs.size := fun b hb => by
    obtain ⟨o, e, _⟩ := T.obj _ _ st2 b hb
    exact Heap.lt_size e
  have f3 : ∀ b ∈ fp, FpOk X pins (upd H2 D (.lst [])) b ∧ b < s3.heap.objs.size := fun b hb => by
    have hlt := sz b hb
    refine ⟨⟨?_, (f2 b hb).2⟩, by rw [h3, Heap.size_push]; exact Nat.lt_succ_of_lt hlt⟩
    rw [upd_ne (by rw [← hD]; exact Nat.ne_of_lt hlt)]
    exact (f2 b hb).1
  have st3 : tn 0 s3.heap := T.keep _ _ _ st2 fun b _ o e => by rw [h3]; exact Heap.get?_push_of_some _ e
  have I4 := block_startH hot hp0 I3 ok hN f3
  have pg := hg s3 (upd H2 D (.lst [])) s3.heap.objs.size (cellsFrom (s3.heap.objs.size + 1) scope.names (cloFrom X.env.cells scope.names [])) fp
  have pt := ht s3 (upd H2 D (.lst [])) s3.heap.objs.size (cellsFrom (s3.heap.objs.size + 1) scope.names (cloFrom X.env.cells scope.names [])) fp
  have pe := he s3 (upd H2 D (.lst [])) s3.heap.objs.size (cellsFrom (s3.heap.objs.size + 1) scope.names (cloFrom X.env.cells scope.names [])) fp
  show codeAny _ _ (.compStart (.ListComp elt [⟨tg, iter, ifs, 0⟩] scope pos) 0 (.ref it) (.ref D) (compEnvC scope (cellsFrom (s3.heap.objs.size + 1) scope.names (cloFrom X.env.cells scope.names [])) s3.heap.objs.size X.env)) (compPost (model X.prog X.w) X.A X.xe use Qf (.ref D) s3.heap.objs.size) { s3 with heap := pushCells (s3.heap.push { cls := .type "dict", data := .dict #[] }) scope.names }
  have nfp : ∀ b ∈ fp, (upd H2 D (.lst [])) b = none := fun b hb => (f3 b hb).1.1
  generalize hce : compEnvC scope (cellsFrom (s3.heap.objs.size + 1) scope.names (cloFrom X.env.cells scope.names [])) s3.heap.objs.size X.env = ce at I4 pg pt pe ⊢
  have cL : ce.locals = s3.heap.objs.size := by subst hce; rfl
  generalize hH3 : upd H2 D (.lst []) = H3 at I3 I4 pg pt pe w0 nfp f3
  generalize hs4 : ({ s3 with heap := pushCells (s3.heap.push { cls := .type "dict", data := .dict #[] }) scope.names } : Shared) = s4 at I4 ⊢
  have st4 : tn 0 s4.heap := T.keep _ _ _ st3 fun b _ o e => by rw [← hs4]; exact pushCells_keeps _ _ _ _ (Heap.get?_push_of_some _ e)
  have stat : ∀ {σ' : L2.St} {H' : Hp} {s' : Shared}, Inv (blkH X p0 s3 H3 scope ce fp) [] σ' H' s' → (∀ b ∈ fp, H' b = none) → ∀ b ∈ fp, FpOk (blkH X p0 s3 H3 scope ce fp) [] H' b := fun {σ' H' s'} I' hn b hb =>
    ⟨hn b hb, (I'.ok.exf b hb).1, I'.ok.exfs b hb, .inl hb, fun x c e => (I'.ok.exf b hb).2 x c e, fun p hp => by
      have e : p = p0 := by simpa using (show p ∈ [p0] ++ ([] : List (Addr × Obj)) from hp)
      rw [e]
      exact (f2 b hb).2.2.2.2.2 p0 (List.mem_append_left _ hp0)⟩
  have hcB : HotC (blkH X p0 s3 H3 scope ce fp) := ⟨p0, hot, List.mem_singleton.mpr rfl⟩
  have loop : codeAny (model X.prog X.w) X.A (.compLoop (.ListComp elt [⟨tg, iter, ifs, 0⟩] scope pos) 0 (.ref it) (.ref D) ce) (compPost (model X.prog X.w) X.A X.xe use Qf (.ref D) s3.heap.objs.size) s4 := by
    refine compLoop_any (fun n s' => ∃ i H', Inv (blkH X p0 s3 H3 scope ce fp) [] (wipe σ (own.map (·.2))) H' s' ∧ tn i s'.heap ∧ (∀ b ∈ fp, H' b = none) ∧ W i n H') ?_ m0 ⟨0, H3, I4, st4, nfp, w0⟩
    rintro n s5 ⟨i, H5, I5, st5, n5, w5⟩
    rcases turn i n H5 w5 with ⟨stop, qq⟩ | ⟨go, Nx, hNx, step⟩
    · have td := T.done (blkH X p0 s3 H3 scope ce fp) rfl rfl rfl hcB i [] s5 _ H5 (fun _ _ => False) I5 (stat I5 n5) st5 stop
      refine thnF td fun r s6 ⟨hr, I6⟩ => ?_
      subst hr
      -- back in the def's context
      have I7 : Inv X pins σ H5 s6 := I3.call' (ch := fp) I6.os I6.base I6.hok I6.bare fun b hb => ⟨(f3 b hb).1.2.2.2.1, (f3 b hb).1.2.1, (f3 b hb).1.2.2.2.2.1, (f3 b hb).1.2.2.2.2.2⟩
      have nC : H5 s3.heap.objs.size = none := by
        have z : H5 ce.locals = none := I6.free
        rw [cL] at z
        exact z
      obtain ⟨m, hn, _⟩ := I6.loc
      have hn : s6.heap.Ns ce.locals m := hn
      rw [cL] at hn
      exact hRR D s3.heap.objs.size s6 m H5 I7 qq hn (I3.fpOk (Nat.le_refl _) nC)
    · have ti := T.item (blkH X p0 s3 H3 scope ce fp) rfl rfl rfl hcB i [] s5 _ H5 (fun _ _ => False) I5 (stat I5 n5) st5 go
      refine thnF ti fun r s6 ⟨u, hr, h6⟩ => ?_
      subst hr
      refine thnF h6 fun _ s7 ⟨x, H7, I7, r7, y7, st7, n7⟩ => ?_
      have I7' := I7.pinned (stat I7 n7) (T.obj _ _ st7)
      refine thnF (pg.run _ s7 _ H7 x u _ I7' r7 (step x H7 y7)) fun _ s8 ⟨σ8, H8, I8, hw8, q8⟩ => ?_
      refine thnF (pt.run _ s8 σ8 H8 _ I8 q8) fun b s9 ⟨H9, I9, q9⟩ => ?_
      -- the turn's end
      have fin : ∀ {s' : Shared} {H' : Hp}, Inv (blkH X p0 s3 H3 scope ce fp) ([] ++ pinsAt fp s7.heap) σ8 H' s' → Nx H' → ∃ m, m < n ∧ ∃ i H', Inv (blkH X p0 s3 H3 scope ce fp) [] (wipe σ (own.map (·.2))) H' s' ∧ tn i s'.heap ∧ (∀ b ∈ fp, H' b = none) ∧ W i m H' := fun {s' H'} I' nx => by
        obtain ⟨m', hm, w'⟩ := hNx H' nx
        have pin' : ∀ b ∈ fp, ∀ o, s7.heap.get? b = some o → s'.heap.get? b = some o ∧ H' b = none := fun b hb o e =>
          let z := I'.pin (b, o) (List.mem_append_right _ (List.mem_append_right _ (mem_pinsAt hb e)))
          ⟨z.1, z.2.1⟩
        have hl : (wipe σ (own.map (·.2))).length = σ8.length := by rw [← hw8, wipe_length]
        refine ⟨m', hm, i + 1, H', (I'.unpinned (pins := [])).weak hl (fun j v e => ?_), T.keep _ _ _ st7 fun b hb o e => (pin' b hb o e).1, fun b hb => ?_, w'⟩
        · rw [← hw8] at e
          exact (wipe_some e).1
        · obtain ⟨o, e, _⟩ := T.obj _ _ st7 b hb
          exact (pin' b hb o e).2
      cases b with
      | false =>
        simp only [Bool.false_eq_true, if_false] at q9 ⊢
        exact fin I9 q9
      | true =>
        simp only [if_true] at q9 ⊢
        refine thnF (pe.run _ s9 σ8 H9 _ I9 q9) fun z s10 ⟨yv, H10, I10, r10, acc, hD10, hz10, nx⟩ => ?_
        exact app_ok (X := blkH X p0 s3 H3 scope ce fp) I10 hD10 hz10 r10 fun s11 I11 => fin I11 nx
  exact codeAny_compStart_list loop (T.self X.A 0 _ _ _ st4 loop)
theorem pe_lcH {elt tg iter : Expr} {ifs : List Expr} {scope : Scope} {own : List (Str × Nat)} {pos : Pos} {wi : TI} {g : TG} {tt : TT} {te : TE} {p0 : Addr × Obj} (hot : Hot1 X.A p0) (hp0 : p0 ∈ X.pn) (hN : X.N.Nodup) (hi : PIH X tg iter wi) (ok : BlkOk X.N X.env.scope scope own)
    (hg : ∀ (s : Shared) (H : Hp) (C : Addr) (cl : List (Str × Addr)) (fp : List Addr), PG (blkH X p0 s H scope (compEnvC scope cl C X.env) fp) tg g) (ht : ∀ (s : Shared) (H : Hp) (C : Addr) (cl : List (Str × Addr)) (fp : List Addr), PTs (blkH X p0 s H scope (compEnvC scope cl C X.env) fp) ifs tt)
    (he : ∀ (s : Shared) (H : Hp) (C : Addr) (cl : List (Str × Addr)) (fp : List Addr), PE (blkH X p0 s H scope (compEnvC scope cl C X.env) fp) elt te) (hs : ∀ x, foldedSetIterable iter X.env x = pure x := by intro _; rfl) :
    PE X (.ListComp elt [⟨tg, iter, ifs, 0⟩] scope pos) (tLc wi g tt te (own.map (·.2))) := by
  refine ⟨fun pins s σ H Q I h => ?_⟩
  rw [eval_ListComp]
  refine lc_coreH hot hp0 hN I hi ok hg ht he hs h fun D C s' m H' I' q hn f => ⟨m, hn, fun h'' sb => ?_⟩
  obtain ⟨f0, f1, f2, f3, f4, f5⟩ := f
  exact ⟨.ref D, H', I'.turned (t' := s'.toks) (fun b o hb e => (sb.2 b hb).trans e) f0 f1 f3 f4 f5, rfl, q⟩end
end HotY

set_option Elab.async false
set_option linter.all false
set_option maxRecDepth 100000
set_option maxHeartbeats 2000000
/-! Methods of texts, zip. -/
namespace L3
open PySem PySem.Spec PyProof.Rows L2 Mi
section
variable {C : Cv} {E : XK} {H : Hp} {α : Al} {μ : Sto}
theorem RpAll.strs {K : PySem.W.Frag} {M : Addr → Prop} : ∀ {vs : List V} {ds : List D} {ys : List Str}, RpAll K H M vs ds → strsOf ds = some ys → vs = ys.map V.str
  | _, _, _, .nil, e => by cases e; rfl
  | _, .str b :: ds, ys, .cons r t, e => by
    unfold strsOf at e
    cases e1 : strsOf ds with
    | none => rw [e1] at e; cases e
    | some k' =>
      rw [e1] at e
      cases e
      cases r
      rw [RpAll.strs t e1]
      rfl
  | _, .none :: ds, _, .cons r t, e => by cases e
  | _, .bool _ :: ds, _, .cons r t, e => by cases e
  | _, .int _ :: ds, _, .cons r t, e => by cases e
  | _, .list _ :: ds, _, .cons r t, e => by cases e
  | _, .tuple _ :: ds, _, .cons r t, e => by cases e
  | _, .dict _ :: ds, _, .cons r t, e => by cases e
theorem rpAll_strs {K : PySem.W.Frag} {M : Addr → Prop} : ∀ ys : List Str, RpAll K H M (ys.map V.str) (ys.map PyData.str)
  | [] => .nil
  | y :: ys => .cons (.str y) (rpAll_strs ys)
/-- what a method of a text asks -/
def MeS (C : Cv) (op : Str → D → Option D) (r : V → List V → Hp → VK → Prop) : Prop := ∀ H α μ a y d z Q, Stor C H α μ → RpT C.K H (Own α μ) y d → op a d = some z → (∀ v H', Same H H' → Rp C.K H' (Own α μ) v z → Q v H') → r (.str a) [y] H Q
def MeS0 (C : Cv) (op : Str → Option D) (r : V → List V → Hp → VK → Prop) : Prop := ∀ H α μ a z Q, Stor C H α μ → op a = some z → (∀ v H', Same H H' → Rp C.K H' (Own α μ) v z → Q v H') → r (.str a) [] H Q
theorem m1_rd {op : Str → D → Option D} {r : V → List V → Hp → VK → Prop} {f g : EF} {σ : L2.St} {Q : VK} (hs : MeS C op r) (q : tD C E (eM1 op f g) σ H Q) : tM1 r (tD C E f) (tD C E g) σ H Q := by
  obtain ⟨ρ, α, μ, S, sl, q⟩ := q
  refine tD_bind S sl q fun v w H1 α1 μ1 st1 S1 sl1 r1 q1 => ?_
  split at q1
  · rename_i a
    cases r1
    refine ⟨⟨a, rfl⟩, tD_bind S1 sl1 q1 fun u w2 H2 α2 μ2 st2 S2 sl2 r2 q2 => ?_⟩
    obtain ⟨z, e, q3⟩ := PQ.ofO q2
    cases e1 : view μ2 w2 with
    | none => rw [e1] at e; cases e
    | some d =>
      simp only [e1, Option.bind_some] at e
      cases e2 : op a d with
      | none => rw [e2] at e; cases e
      | some d2 =>
        rw [e2] at e
        cases e
        exact hs H2 α2 μ2 a u d d2 Q S2 (r2.view S2 e1) e2 fun v H' sm rv => q3 v H' α2 (Same.step S2 sm) (S2.same sm) rv
  · exact (show False from q1).elim
theorem m0_rd {op : Str → Option D} {r : V → List V → Hp → VK → Prop} {f : EF} {σ : L2.St} {Q : VK} (hs : MeS0 C op r) (q : tD C E (eM0 op f) σ H Q) : tM0 r (tD C E f) σ H Q := by
  obtain ⟨ρ, α, μ, S, sl, q⟩ := q
  refine tD_bind S sl q fun v w H1 α1 μ1 st1 S1 sl1 r1 q1 => ?_
  split at q1
  · rename_i a
    cases r1
    refine ⟨⟨a, rfl⟩, ?_⟩
    obtain ⟨z, e, q3⟩ := PQ.ofO q1
    cases e2 : op a with
    | none => rw [e2] at e; cases e
    | some d2 =>
      rw [e2] at e
      cases e
      exact hs H1 α1 μ1 a d2 Q S1 e2 fun v H' sm rv => q3 v H' α1 (Same.step S1 sm) (S1.same sm) rv
  · exact (show False from q1).elim
theorem ms_new {ys : List Str} {Q : VK} (S : Stor C H α μ) (q : ∀ v H', Same H H' → Rp C.K H' (Own α μ) v (.list (ys.map PyData.str)) → Q v H') : rNewStrs ys H Q := fun p np => by
  obtain ⟨sm, rp⟩ := rp_newL S np (rpAll_strs ys)
  exact q _ _ sm rp
theorem ms_upper : MeS0 C mUpper (fun x xs H Q => ∃ a, x = .str a ∧ xs = [] ∧ a.length ≤ 5592405 ∧ Q (.str (Txt.upper a)) H) := by
  intro H α μ a z Q S e q
  unfold mUpper at e
  split at e
  · rename_i hl
    cases e
    exact ⟨a, rfl, rfl, Nat.le_trans hl (by decide), q _ H (.refl H) (.str _)⟩
  · cases e
theorem ms_split : MeS C mSplit (fun x xs H Q => ∃ a b, x = .str a ∧ xs = [.str b] ∧ (b.length == 0) = false ∧ a.length + 2 ≤ sizeLine ∧ rNewStrs (Txt.split a b) H Q) := by
  intro H α μ a y d z Q S r e q
  unfold mSplit at e
  split at e
  · rename_i b
    split at e
    · rename_i hh
      cases e
      have hy := r.str
      subst hy
      exact ⟨a, b, rfl, rfl, by simpa using hh.1, Nat.le_trans (Nat.add_le_add_right hh.2 2) (by decide), ms_new S q⟩
    · cases e
  · cases e
theorem ms_join : MeS C mJoin (fun x xs H Q => ∃ a p, ∃ ys : List Str, x = .str a ∧ xs = [.ref p] ∧ (SqL C.K H p (ys.map V.str) ∨ SqT C.K H p (ys.map V.str)) ∧
    (ys.map (·.length)).sum + ys.length * a.length ≤ 16777216 ∧ Q (.str (Txt.join a ys)) H) := by
  intro H α μ a y d z Q S r e q
  unfold mJoin at e
  split at e
  · rename_i l
    cases e1 : strsOf l with
    | none => rw [e1] at e; cases e
    | some ys =>
      rw [e1] at e
      simp only [Option.bind_some] at e
      split at e
      · rename_i hj
        cases e
        obtain ⟨p1, xs, rfl, h1, r1⟩ := r.list
        have hx := r1.strs e1
        subst hx
        exact ⟨a, p1, ys, rfl, rfl, .inl (.inl h1), Nat.le_trans hj (by decide), q _ H (.refl H) (.str _)⟩
      · cases e
  · rename_i l
    cases e1 : strsOf l with
    | none => rw [e1] at e; cases e
    | some ys =>
      rw [e1] at e
      simp only [Option.bind_some] at e
      split at e
      · rename_i hj
        cases e
        obtain ⟨p1, xs, rfl, h1, r1⟩ := r.tuple
        have hx := r1.strs e1
        subst hx
        exact ⟨a, p1, ys, rfl, rfl, .inr h1, Nat.le_trans hj (by decide), q _ H (.refl H) (.str _)⟩
      · cases e
  · cases e
end
section
variable {X : Cx} {T : List (Addr × Str)} {E : XK} {j : Nat} {pos apos : Pos} {tg a b c : Expr} {f g h : EF}
theorem de_m1 {id : String} {name : Str} {op : Str → D → Option D} {r : V → List V → Hp → VK → Prop} (slot : Slot "str" name id) (ty : typeOf (.builtin id) = pure (.type "method_descriptor")) (rule : MtR X id r) (hm : MeS (CvX X T) op r) (ha : DE X T E a f) (hb : DE X T E b g)
    (hs : starEach [b] X.env = [(false, eval b X.env)] := by rfl) (hbase : attributeBase a name X.env (eval a X.env) = eval a X.env := by rfl) (hline : (apos.endLine == pos.line) = true := by rfl) : DE X T E (.Call (.Attribute a name apos) [b] [] pos) (eM1 op f g) :=
  pe_imp (pe_m1 slot ty rule ha hb hs hbase hline) fun σ H Q q => m1_rd hm q
theorem de_m0 {id : String} {name : Str} {op : Str → Option D} {r : V → List V → Hp → VK → Prop} (slot : Slot "str" name id) (ty : typeOf (.builtin id) = pure (.type "method_descriptor")) (rule : MtR X id r) (hm : MeS0 (CvX X T) op r) (ha : DE X T E a f)
    (hbase : attributeBase a name X.env (eval a X.env) = eval a X.env := by rfl) (hline : (apos.endLine == pos.line) = true := by rfl) : DE X T E (.Call (.Attribute a name apos) [] [] pos) (eM0 op f) :=
  pe_imp (pe_m0 slot ty rule ha hbase hline) fun σ H Q q => m0_rd hm q
theorem de_split (ha : DE X T E a f) (hb : DE X T E b g) (hs : starEach [b] X.env = [(false, eval b X.env)] := by rfl) (hbase : attributeBase a "split" X.env (eval a X.env) = eval a X.env := by rfl) (hline : (apos.endLine == pos.line) = true := by rfl) :
    DE X T E (.Call (.Attribute a "split" apos) [b] [] pos) (eM1 mSplit f g) := de_m1 PySem.F.slot_str_split PySem.F.type_str_split mt_split ms_split ha hb hs hbase hline
theorem de_upper (ha : DE X T E a f) (hbase : attributeBase a "upper" X.env (eval a X.env) = eval a X.env := by rfl) (hline : (apos.endLine == pos.line) = true := by rfl) :
    DE X T E (.Call (.Attribute a "upper" apos) [] [] pos) (eM0 mUpper f) := de_m0 PySem.F.slot_str_upper PySem.F.type_str_upper mt_upper ms_upper ha hbase hline
theorem de_join (ha : DE X T E a f) (hb : DE X T E b g) (hs : starEach [b] X.env = [(false, eval b X.env)] := by rfl) (hbase : attributeBase a "join" X.env (eval a X.env) = eval a X.env := by rfl) (hline : (apos.endLine == pos.line) = true := by rfl) :
    DE X T E (.Call (.Attribute a "join" apos) [b] [] pos) (eM1 mJoin f g) := de_m1 PySem.F.slot_str_join PySem.F.type_str_join mt_join ms_join ha hb hs hbase hline
end
/-! ### zip -/
theorem zip_at {l r : List D} {i : Nat} {d : D} (h : ((l.zip r).map fun p => PyData.tuple [p.1, p.2])[i]? = some d) : ∃ x y, l[i]? = some x ∧ r[i]? = some y ∧ d = .tuple [x, y] := by
  rw [List.getElem?_map] at h
  cases e : (l.zip r)[i]? with
  | none => rw [e] at h; cases h
  | some p =>
    rw [e] at h
    cases h
    obtain ⟨h1, h2⟩ := List.getElem?_zip_eq_some.mp (show (l.zip r)[i]? = some (p.1, p.2) from e)
    exact ⟨p.1, p.2, h1, h2, rfl⟩
theorem yields_zip {C : Cv} {H : Hp} {M : Addr → Prop} {a b : Addr} {xs ys : List V} {l r : List D} (hx : Rd H a (.lst xs)) (nx : ¬ M a) (rx : RpAll C.K H M xs l) (hy : Rd H b (.lst ys)) (ny : ¬ M b) (ry : RpAll C.K H M ys r) :
    Yields C (Itz C.K a b) ((l.zip r).map fun p => .tuple [p.1, p.2]) H M := by
  intro i H2 M2 st fr
  have h2 : SqL C.K H2 a xs := .inl (st.rd hx nx).1
  have h3 : SqL C.K H2 b ys := .inl (st.rd hy ny).1
  have r2 := rx.ext st
  have r3 := ry.ext st
  refine ⟨fun d e => ?_, fun h => ⟨xs, ys, h2, h3, ?_⟩⟩
  · obtain ⟨x, y, e1, e2, rfl⟩ := zip_at e
    obtain ⟨v, h4, h5⟩ := r2.get e1
    obtain ⟨u, h6, h7⟩ := r3.get e2
    refine ⟨⟨xs, ys, v, u, h2, h3, h4, h6⟩, fun z H' yy => ?_⟩
    obtain ⟨T, x', y', rfl, nT, rfl, g1, g2⟩ := yy
    have e3 := g1 xs h2
    have e4 := g2 ys h3
    rw [h4] at e3; cases e3
    rw [h6] at e4; cases e4
    exact rp_newT nT (.cons h5 (.cons h7 .nil))
  · rw [r2.length, r3.length]
    rw [List.length_map, List.length_zip] at h
    omega
def DIH (X : Cx) (T : List (Addr × Str)) (E : XK) (tg e : Expr) (it : IF) : Prop := L2H.PIH X tg e (tI (CvX X T) E it)
section
variable {X : Cx} {T : List (Addr × Str)} {E : XK} {j : Nat} {pos : Pos} {tg a b c : Expr} {f g h : EF}
theorem zip_rd {σ : L2.St} {H : Hp} {R' : It → Hp → Prop} (q : tI (CvX X T) E (iZipD f g) σ H R') : iZip X.K (tCons (tD (CvX X T) E f) (tCons (tD (CvX X T) E g) tNil)) σ H R' := by
  obtain ⟨ρ, α, μ, S, sl, q⟩ := q
  refine tD_bindI S sl q fun v w H1 α1 μ1 st1 S1 sl1 r1 q1 => ?_
  refine tD_bindI S1 sl1 q1 fun u w2 H2 α2 μ2 st2 S2 sl2 r2 q2 => ?_
  split at q2
  · rename_i l0 μ0 e0
    split at e0
    · rename_i l r
      split at e0
      · rename_i hl
        cases e0
        have r1' := r1.step st2
        cases r1' with
        | lst h1 n1 rr1 =>
          cases r2 with
          | lst h2 n2 rr2 =>
            refine ⟨_, _, _, _, rfl, .inl h1, .inl h2, q2 _ H2 α2 (.refl _ _ _) S2 ?_ (yields_zip h1 n1 rr1 h2 n2 rr2)⟩
            rw [List.length_map, List.length_zip]
            exact Nat.le_trans (Nat.min_le_left _ _) (Nat.le_trans hl (by decide))
      · cases e0
    · cases e0
  · rename_i x0 μ0 e0
    split at e0
    · split at e0 <;> cases e0
    · cases e0
  · exact q2.elim
theorem di_zip {p tpos : Pos} {elts : List Expr} {kk : Nat} (ha : DE X T E a f) (hb : DE X T E b g) (hm : X.mg "zip" = none) (hg : Gl X "zip" := by rfl)
    (hs : starEach [a, b] X.env = (false, eval a X.env) :: starEach [b] X.env := by rfl) (hs2 : starEach [b] X.env = (false, eval b X.env) :: starEach [] X.env := by rfl) (hpl : (backTo pos (starEach [b] X.env)).any (·.1) = false := by rfl) :
    DI X T E (.Tuple elts kk tpos) (.Call (.Name "zip" p) [a, b] [] pos) (iZipD f g) :=
  pi_imp (pi_zip hg hm (pa_cons ha (pa_cons hb pa_nil hs2) hs) hs hpl) fun σ H R' q => zip_rd q
theorem di_zipH {p tpos : Pos} {elts : List Expr} {kk : Nat} (ha : DE X T E a f) (hb : DE X T E b g) (hm : X.mg "zip" = none) (hg : Gl X "zip" := by rfl)
    (hs : starEach [a, b] X.env = (false, eval a X.env) :: starEach [b] X.env := by rfl) (hs2 : starEach [b] X.env = (false, eval b X.env) :: starEach [] X.env := by rfl) (hpl : (backTo pos (starEach [b] X.env)).any (·.1) = false := by rfl) :
    DIH X T E (.Tuple elts kk tpos) (.Call (.Name "zip" p) [a, b] [] pos) (iZipD f g) :=
  ⟨fun pins s σ H R' I q => (HotY.pi_zipH hg hm (pa_cons ha (pa_cons hb pa_nil hs2) hs) hs hpl).run pins s σ H R' I (zip_rd q)⟩
/-! ### while an exception is handled -/
theorem dg_tupH {ts : List TF} {es : List Expr} {k : Nat} {ks : List Nat} (hc : L2H.HotC X) (h : DGs X T es ts ks) (hn : (assignEach es X.env).length = es.length := by rfl) (hst : (assignEach es X.env).findIdx? (·.1) = none := by rfl) : DG X T (.Tuple es k pos) (Mi.tTup ts) ks :=
  pg_imp (HotY.pg_tupH hc h.pgs hn hst) fun v σ H Q ⟨ρ, α, μ, d, ρ1, S, sl, r, e, q⟩ => by
    unfold Mi.tTup at e
    split at e
    · rename_i ds
      obtain ⟨p1, ys, rfl, h1, r1⟩ := RpT.tuple (.inl r)
      exact ⟨p1, ys, rfl, h1, by rw [r1.length, h.len, tTups_len e], ρ, α, μ, ds, ρ1, S, sl, r1, e, q⟩
    · cases e
theorem de_lcH {it : IF} {t : TF} {ks : List Nat} {elt iter : Expr} {ifs : List Expr} {scope : Scope} {own : List (Str × Nat)} {p0 : Addr × Obj} (hot : L2H.Hot1 X.A p0) (hp0 : p0 ∈ X.pn) (nd : X.N.Nodup) (hi : DIH X T E tg iter it) (ok : BlkOk X.N X.env.scope scope own)
    (hg : ∀ (s : Shared) (H : Hp) (D : Addr) (cl : List (Str × Addr)) (fp : List Addr), DG (HotY.blkH X p0 s H scope (compEnvC scope cl D X.env) fp) T tg t ks)
    (ht : ∀ (s : Shared) (H : Hp) (D : Addr) (cl : List (Str × Addr)) (fp : List Addr), DC (HotY.blkH X p0 s H scope (compEnvC scope cl D X.env) fp) T ifs f)
    (he : ∀ (s : Shared) (H : Hp) (D : Addr) (cl : List (Str × Addr)) (fp : List Addr), DE (HotY.blkH X p0 s H scope (compEnvC scope cl D X.env) fp) T E0 elt g)
    (hw : ∀ k ∈ ks, k ∈ own.map (·.2) := by decide) (hs : ∀ x, foldedSetIterable iter X.env x = pure x := by intro _; rfl) :
    DE X T E (.ListComp elt [⟨tg, iter, ifs, 0⟩] scope pos) (eLc (own.map (·.2)) t it f g) :=
  pe_imp (HotY.pe_lcH (g := tG (CvX X T) t ks) (tt := fun σ H Q => tD (CvX X T) E0 f σ H fun v H1 => ∃ b, v = .bl b ∧ Q b H1) (te := tD (CvX X T) E0 g) hot hp0 nd hi ok hg (fun s H D cl fp => (ht s H D cl fp).pts) (fun s H D cl fp => he s H D cl fp) hs) fun σ H Q q => lc_rd hw q
/-- isinstance of the error that is pinned -/
theorem de_isX {x y : Str} {p p2 : Pos} {a0 D : Addr} {oe : Obj} {bb : Bool} {c : V} {cv : Value} (C : ExcC X.K D) (hz : Zc (.ref D) none oe) (hfl : ∃ vs, oe.data = .fields vs) (hp : (a0, oe) ∈ X.pn) (hm : X.mg x = none) (hv : bootBuiltins x = some (.builtin "isinstance"))
    (hc : PE X (.Name y p2) (tC c)) (hcv : ∀ u, RelV c u → u = cv) (hb : PySem.W.kitOne X.K (.ref D) cv = some bb) (ha : DE X T E a f)
    (hg : Gl X x := by rfl) (hn : x ≠ "__name__" := by decide) (hdb : (x == ("__debug__" : Str)) = false := by decide)
    (he : starEach (a :: [.Name y p2]) X.env = (false, eval a X.env) :: starEach [.Name y p2] X.env := by rfl) (hpl : (backTo pos (starEach [.Name y p2] X.env)).any (·.1) = false := by rfl) (he2 : starEach [.Name y p2] X.env = (false, eval (.Name y p2) X.env) :: starEach [] X.env := by rfl) :
    DE X T E (.Call (.Name x p) [a, .Name y p2] [] pos) (eIsX a0 bb f) :=
  pe_imp (pe_callB (HotY.call_isP C hz hfl hp) hg hm hv (pa_cons ha (pa_cons hc pa_nil he2) he) hn hdb he hpl) fun σ H Q ⟨ρ, α, μ, S, sl, q⟩ => tD_bind S sl q fun v w H1 α1 μ1 st S1 sl1 rv q1 => by
    split at q1
    · rename_i k
      split at q1
      · rename_i hk
        subst hk
        obtain rfl := rv
        exact ⟨c, cv, bb, rfl, hcv, hb, PQ.bl S1 q1⟩
      · exact (show False from q1).elim
    · exact (show False from q1).elim
end
end L3

set_option Elab.async false
set_option linter.all false
set_option maxRecDepth 100000
set_option maxHeartbeats 2000000
/-! enumerate over a tuple or a list. -/
namespace EnY
open PySem PySem.Spec PyProof.Rows L2
set_option maxHeartbeats 4000000 in
theorem meets_enumerate_newT {v : Value} {o : Obj} {H : Heap → Prop} (B : Begins v o H) :
    Meets (Builtin.«enumerate.__new__» ⟨[.type "enumerate", v], []⟩) (fun _ R s => H s.heap ∧
      R (.ok (.ret (.ref (s.heap.push o).objs.size))) { s with heap := (s.heap.push o).push { cls := .type "enumerate", data := .fields #[.none, .bool false, .ref s.heap.objs.size, rawInt 0, .none, .none] } }) :=
  .of_wp fun prog w A R s h => by
    obtain ⟨hp, g, d, tk, os⟩ := s; obtain ⟨h1, h⟩ := h
    have hsub := sub_enumerate
    have q1 : ∀ {A' : Around} {E : Value → Shared → Prop} {Q : Value → Shared → Prop}, Q (.ref hp.objs.size) ⟨hp.push o, g, d, tk, os⟩ → wpAny (model prog w) A' (pyIter v) Q E ⟨hp, g, d, tk, os⟩ :=
      fun q => B.iter prog w _ _ ⟨hp, g, d, tk, os⟩ _ h1 q
    wp_walk using q1
    refine wpAny_stack_any fun st => wpAny_pure ?_
    split
    · rename_i c _ _ _ _ _
      cases (c == Value.type "enumerate")
      · wp_walk using q1
        exact ⟨_, rfl, h⟩
      · wp_walk using q1
        exact ⟨_, rfl, h⟩
    · wp_walk using q1
      exact ⟨_, rfl, h⟩
theorem enum_begin1 {prog : Program} {w : World} {A : Around} {E : Value → Shared → Prop} {s : Shared} {v : Value} {o : Obj} {H : Heap → Prop} {Q : Value → Shared → Prop} (B : Begins v o H) (h1 : H s.heap)
    (h : ∀ h', IsEnum h' (s.heap.objs.size + 1) s.heap.objs.size 0 .none → h'.get? s.heap.objs.size = some o → h'.objs.size = s.heap.objs.size + 2 →
      (∀ b o, s.heap.get? b = some o → h'.get? b = some o) → Q (.ref (s.heap.objs.size + 1)) { s with heap := h' }) :
    wpAny (model prog w) A (call (.type "enumerate") [v]) Q E s := by
  refine callType_new F.called_enumerate (by decide) (F.typeCall_enumerate_1 _) (F.newCall_enumerate_1 _) (fun obj => F.args_object_init_2 obj _) F.entry_enumerate_new
    (meets_enumerate_newT B) ⟨h1, ?_⟩
  have hz : (s.heap.push o).objs.size = s.heap.objs.size + 1 := Heap.size_push ..
  show _ ∧ _
  rw [hz]
  have he : IsEnum ((s.heap.push o).push { cls := .type "enumerate", data := .fields #[.none, .bool false, .ref s.heap.objs.size, rawInt 0, .none, .none] }) (s.heap.objs.size + 1) s.heap.objs.size 0 .none := by
    have := Heap.get?_push_size (s.heap.push o) (o := { cls := .type "enumerate", data := .fields #[.none, .bool false, .ref s.heap.objs.size, rawInt 0, .none, .none] }) rfl
    rw [hz] at this; exact this
  refine ⟨⟨_, he, rfl⟩, h _ he (Heap.get?_push_of_some _ (Heap.get?_push_size _ B.free)) (by rw [Heap.size_push, hz]) fun b o x => Heap.get?_push_of_some _ (Heap.get?_push_of_some _ x)⟩
/-- next of enumerate(tuple) at the end -/
theorem tup_end {prog : Program} {w : World} {A : Around} {E : Value → Shared → Prop} {s : Shared} {e it l : Addr} {i : Nat} {items : Array Value} {old : Value} {Q : Option Value → Shared → Prop} (hh : A.handled = none)
    (he : IsEnum s.heap e it i old) (hit : s.heap.IsTupleIter it l i) (hl : s.heap.IsTuple l items) (hx : items[i]? = none)
    (hQ : ∀ h', Heap.ExtBut it s.heap h' → Q none { s with heap := h' }) : wpAny (model prog w) A (pyNext (.ref e)) Q E s := by
  have hT : s.TypeIs (.ref e) "enumerate" := ⟨_, he, rfl⟩
  unfold pyNext
  refine wpAny_bind (wpAny_attempt (wpAny_callSpecial?_slot (name := Str.ofString "__next__") hT F.slot_enumerate_next
    (wpAny_call_entry F.slot_enumerate_next hT F.entry_enumerate_next ?_ (F.args_enumerate_next_1 _))))
  show wpAny _ _ (field (.ref e) 2 >>= _) _ _ _
  refine wpAny_bind (wpAny_field he rfl (x := .ref it) rfl ?_)
  refine wpAny_bind (wpAny_nextOf_tuple_end hh hit hl hx fun h' x he' hx' => ?_)
  obtain ⟨o, ho, hc⟩ := hx'
  refine wpAny_bind (wpAny_isInstance (T := "StopIteration") (b := true) ⟨o, ho, hc⟩ isSubtype_stop ?_)
  exact wpAny_pure (hQ _ he')
/-- the tuple at a, each item in a new pair -/
def IteT (K : PySem.W.Frag) (a : Addr) : It :=
  ⟨fun i H => ∃ (xs : List V) (x : V), SqT K H a xs ∧ xs[i]? = some x, fun i H v H' => ∃ T x, v = .ref T ∧ H T = none ∧ H' = upd H T (.tup [.int (i : Nat), x]) ∧ ∀ xs, SqT K H a xs → xs[i]? = some x, fun i H => ∃ xs : List V, SqT K H a xs ∧ xs.length ≤ i⟩
theorem turn_enumT {P : Program} {w : World} {K : PySem.W.Frag} {elts : List Expr} {kk : Nat} {tpos : Pos} (a e it : Addr) :
    Turn P w K (.Tuple elts kk tpos) (IteT K a) [e, it] e (fun i h => (∃ old, IsEnum h e it ((i : Nat) : Int) old) ∧ h.IsTupleIter it a i ∧ e ≠ it) where
  mem := by simp
  obj := fun i h st b hb => by
    obtain ⟨⟨old, he⟩, ⟨o, ho, hc, hd⟩, _⟩ := st
    have e' : b = e ∨ b = it := by simpa using hb
    rcases e' with z | z
    · rw [z]; exact ⟨_, he, fun v q => nomatch q⟩
    · rw [z]; exact ⟨o, ho, fun v q => by rw [hd] at q; cases q⟩
  keep := fun i h h' st k => let ⟨⟨old, he⟩, hi, hne⟩ := st; ⟨⟨old, k e (by simp) _ he⟩, hi.at fun o q => k it (by simp) o q, hne⟩
  item := by
    intro X hP hw hK hc i pins s σ H E I hf st hg
    subst hP hw hK
    obtain ⟨⟨old, he⟩, hit, hne⟩ := st
    obtain ⟨xs, x, hq, hx⟩ := hg
    obtain ⟨its, rv, p, hz⟩ := I.tuple hq
    obtain ⟨u, hu, ru⟩ := rv.get hx
    have hel : e < s.heap.objs.size := Heap.lt_size he
    have hil : it < s.heap.objs.size := by obtain ⟨_, q, _⟩ := hit; exact Heap.lt_size q
    have hta : a ≠ it := fun z => by
      obtain ⟨o1, h1, c1, _⟩ := p
      obtain ⟨o2, h2, c2, _⟩ := hit
      rw [z, h2] at h1; cases h1
      rw [c1] at c2
      injection c2 with c3
      exact absurd c3 (by decide)
    have D := Draws.tuple (prog := X.prog) (w := X.w) (A := X.A.in1) (I.ok.hd hc) it a hta its.toArray
    have hne2 : e ≠ a := fun z => by
      obtain ⟨o1, h1, c1, _⟩ := p
      rw [← z, he] at h1; cases h1
      injection c1 with c3
      exact absurd c3 (by decide)
    have hlt : i < its.toArray.size := by
      have := (List.getElem?_eq_some_iff.mp hu).1
      simpa using this
    refine wpAny_pyNext_enum_itemD D he ⟨hit, p⟩ hlt hne (by simp [hne, hne2]) fun x' h' tk hP ho hs' hT hsz hk => ?_
    have ex : x' = u := by
      have hP : its.toArray[i]? = some x' := hP
      rw [List.getElem?_toArray, hu] at hP
      exact (Option.some.inj hP).symm
    subst ex
    refine ⟨_, rfl, wpAny_letOwnedTupleGo_enum (s := { s with heap := h', toks := tk + 1 }) ho fun h'' he' sb => ?_⟩
    have hT2 : h''.get? s.heap.objs.size = some { cls := .type "tuple", data := .seq #[.int i tk, x'] } := (sb.2 _ (Nat.ne_of_gt hel)).trans hT
    have new : ObjOk X.prog X.w (upd H s.heap.objs.size (.tup [.int (i : Nat), x])) h'' s.heap.objs.size (.tup [.int (i : Nat), x]) :=
      ⟨by show 2 ≤ sizeLine; decide, [.int i tk, x'], .cons ⟨_, rfl⟩ (.cons ru .nil), ⟨_, hT2, rfl, _, rfl⟩⟩
    have I1 : Inv X pins σ (upd H s.heap.objs.size (.tup [.int (i : Nat), x])) { s with heap := h'', toks := tk + 1 } :=
      I.turnedNew (ch := [e, it]) (fun b ob hb q => (sb.2 b (fun z => hb (by simp [z]))).trans (hk b ob (fun z => hb (by simp [z])) (fun z => hb (by simp [z])) q)) hf (Nat.le_refl _) new
    refine ⟨.ref s.heap.objs.size, _, I1, rfl, ⟨_, x, rfl, I.hok.fresh (Nat.le_refl _), rfl, fun ys hy => by rw [I.tuple_inj hy hq]; exact hx⟩, ⟨⟨x', ?_⟩, hs'.1.at fun o q => (sb.2 it (Ne.symm hne)).trans q, hne⟩, fun b hb => ?_⟩
    · have e1 : ((i + 1 : Nat) : Int) = (i : Int) + 1 := by omega
      rw [e1]; exact he'
    · have hb' : b < s.heap.objs.size := by
        have e' : b = e ∨ b = it := by simpa using hb
        rcases e' with z | z
        · rw [z]; exact hel
        · rw [z]; exact hil
      rw [upd_ne (Nat.ne_of_lt hb')]
      exact (hf b hb).1
  done := by
    intro X hP hw hK hc i pins s σ H E I hf st hg
    subst hP hw hK
    obtain ⟨⟨old, he⟩, hit, hne⟩ := st
    obtain ⟨xs, hq, hx⟩ := hg
    obtain ⟨its, rv, p, hz⟩ := I.tuple hq
    obtain ⟨f0, f1, f2, f3, f4, f5⟩ := hf it (by simp)
    have hl := rv.length
    exact tup_end (I.ok.hd hc) he hit p (by simp; omega) fun h' eb => ⟨rfl, I.turned (t' := s.toks) (fun b o hb q => eb b o hb q) f0 f1 f3 f4 f5⟩
  self := fun A i s Q E st h => let ⟨⟨_, he⟩, _⟩ := st; wpAny_pyIter_enum he h
def iEnumT (K : PySem.W.Frag) (ta : TA) : TI := fun σ H R => ta σ H fun vs H1 => ∃ a xs, vs = [.ref a] ∧ ((SqL K H1 a xs ∧ R (Ite K a) H1) ∨ (SqT K H1 a xs ∧ R (IteT K a) H1))
theorem pi_enumT {X : Cx} {e : Expr} {ta : TA} {p pos tpos : Pos} {elts : List Expr} {kk : Nat} (hg : Gl X "enumerate") (hm : X.mg "enumerate" = none) (ha : PA X [e] ta) (hs : starEach [e] X.env = [(false, eval e X.env)] := by rfl) :
    PI X (.Tuple elts kk tpos) (.Call (.Name "enumerate" p) [e] [] pos) (iEnumT X.K ta) := by
  refine ⟨fun pins s σ H R I h => ?_⟩
  refine Call_ (ld_blt I hg hm boot_enumerate (PyProof.Rows.callWith_type1 (thn (ha.run pos pins s σ H _ I h) fun us s1 ⟨vs, H1, I1, r1, q1⟩ => ?_) hs rfl))
  obtain ⟨a, xs, ex, q1⟩ := q1
  subst ex
  cases r1 with
  | cons r rr =>
    cases rr
    cases r
    have fp : ∀ b, b ∈ [s1.heap.objs.size + 1, s1.heap.objs.size] → FpOk X pins H1 b := fun b hb => by
      have e' : b = s1.heap.objs.size + 1 ∨ b = s1.heap.objs.size := by simpa using hb
      have hle : s1.heap.objs.size ≤ b := by
        rcases e' with z | z
        · rw [z]; exact Nat.le_add_right _ _
        · rw [z]; exact Nat.le_refl _
      exact I1.fpOk hle (I1.hok.fresh hle)
    rcases q1 with ⟨hq, q⟩ | ⟨hq, q⟩
    · obtain ⟨its, rv, p', hz⟩ := I1.list hq
      refine call_enumerate_list p'.isList fun h' he hit hsz hk => wpAny_pyIter_enum he ?_
      have I2 : Inv X pins σ H1 { s1 with heap := h' } := I1.kept (t' := s1.toks) hk
      exact ⟨s1.heap.objs.size + 1, [s1.heap.objs.size + 1, s1.heap.objs.size], _, _, H1, rfl, I2, turn_enum a (s1.heap.objs.size + 1) s1.heap.objs.size, ⟨⟨.none, he⟩, hit, Nat.succ_ne_self _⟩, fp, q⟩
    · obtain ⟨its, rv, p', hz⟩ := I1.tuple hq
      refine enum_begin1 (begins_tuple a its.toArray) p' fun h' he hit hsz hk => wpAny_pyIter_enum he ?_
      have I2 : Inv X pins σ H1 { s1 with heap := h' } := I1.kept (t' := s1.toks) hk
      exact ⟨s1.heap.objs.size + 1, [s1.heap.objs.size + 1, s1.heap.objs.size], _, _, H1, rfl, I2, turn_enumT a (s1.heap.objs.size + 1) s1.heap.objs.size, ⟨⟨.none, he⟩, ⟨_, hit, rfl, rfl⟩, Nat.succ_ne_self _⟩, fp, q⟩
end EnY
namespace L3
open PySem PySem.Spec PyProof.Rows L2 Mi
theorem enum_at {l : List D} {i : Nat} {d : D} (h : (enumD l)[i]? = some d) : ∃ x, l[i]? = some x ∧ d = .tuple [.int (i : Nat), x] := by
  unfold enumD at h
  rw [List.getElem?_map, List.getElem?_zipIdx] at h
  cases e : l[i]? with
  | none => rw [e] at h; cases h
  | some x =>
    rw [e] at h
    cases h
    exact ⟨x, rfl, by simp⟩
theorem enum_len (l : List D) : (enumD l).length = l.length := by simp [enumD]
section
variable {C : Cv} {E : XK} {H : Hp} {α : Al} {μ : Sto}
theorem yields_enumL {M : Addr → Prop} {a : Addr} {xs : List V} {ds : List PyData} (hx : Rd H a (.lst xs)) (n : ¬ M a) (r : RpAll C.K H M xs ds) : Yields C (Ite C.K a) (enumD ds) H M := by
  intro i H2 M2 st _
  have h2 : SqL C.K H2 a xs := .inl (st.rd hx n).1
  have r2 := r.ext st
  refine ⟨fun d e => ?_, fun h => ⟨xs, h2, by rw [r2.length]; rw [enum_len] at h; exact h⟩⟩
  obtain ⟨x, e1, rfl⟩ := enum_at e
  obtain ⟨v, h3, h4⟩ := r2.get e1
  refine ⟨⟨xs, v, h2, h3⟩, fun z H' yy => ?_⟩
  obtain ⟨T, x', rfl, nT, rfl, g1⟩ := yy
  have e3 := g1 xs h2
  rw [h3] at e3; cases e3
  exact rp_newT nT (.cons (.int _) (.cons h4 .nil))
theorem yields_enumT {M : Addr → Prop} {a : Addr} {xs : List V} {ds : List PyData} (hx : SqT C.K H a xs) (r : RpAll C.K H M xs ds) : Yields C (EnY.IteT C.K a) (enumD ds) H M := by
  intro i H2 M2 st _
  have h2 : SqT C.K H2 a xs := st.sqT hx
  have r2 := r.ext st
  refine ⟨fun d e => ?_, fun h => ⟨xs, h2, by rw [r2.length]; rw [enum_len] at h; exact h⟩⟩
  obtain ⟨x, e1, rfl⟩ := enum_at e
  obtain ⟨v, h3, h4⟩ := r2.get e1
  refine ⟨⟨xs, v, h2, h3⟩, fun z H' yy => ?_⟩
  obtain ⟨T, x', rfl, nT, rfl, g1⟩ := yy
  have e3 := g1 xs h2
  rw [h3] at e3; cases e3
  exact rp_newT nT (.cons (.int _) (.cons h4 .nil))
end
section
variable {X : Cx} {T : List (Addr × Str)} {E : XK} {pos : Pos} {a : Expr} {f : EF}
theorem enum_rd {σ : L2.St} {H : Hp} {R' : It → Hp → Prop} (q : tI (CvX X T) E (iEnumD f) σ H R') : EnY.iEnumT X.K (tCons (tD (CvX X T) E f) tNil) σ H R' := by
  obtain ⟨ρ, α, μ, S, sl, q⟩ := q
  refine tD_bindI S sl q fun v w H1 α1 μ1 st1 S1 sl1 r1 q1 => ?_
  split at q1
  · rename_i l0 μ0 e0
    split at e0
    · rename_i l
      split at e0
      · rename_i hl
        cases e0
        cases r1 with
        | tup h1 rr1 => exact ⟨_, _, rfl, .inr ⟨h1, q1 _ H1 α1 (.refl _ _ _) S1 (by rw [enum_len]; exact Nat.le_trans hl (by decide)) (yields_enumT h1 rr1)⟩⟩
      · cases e0
    · rename_i l
      split at e0
      · rename_i hl
        cases e0
        cases r1 with
        | lst h1 n1 rr1 => exact ⟨_, _, rfl, .inl ⟨.inl h1, q1 _ H1 α1 (.refl _ _ _) S1 (by rw [enum_len]; exact Nat.le_trans hl (by decide)) (yields_enumL h1 n1 rr1)⟩⟩
      · cases e0
    · cases e0
  · rename_i x0 μ0 e0
    split at e0
    · split at e0 <;> cases e0
    · split at e0 <;> cases e0
    · cases e0
  · exact q1.elim
theorem di_enum {p tpos : Pos} {elts : List Expr} {kk : Nat} (ha : DE X T E a f) (hm : X.mg "enumerate" = none) (hg : Gl X "enumerate" := by rfl)
    (hs : starEach [a] X.env = [(false, eval a X.env)] := by rfl) :
    DI X T E (.Tuple elts kk tpos) (.Call (.Name "enumerate" p) [a] [] pos) (iEnumD f) :=
  pi_imp (EnY.pi_enumT hg hm (pa_cons ha pa_nil hs) hs) fun σ H R' q => enum_rd q
end
end L3

set_option Elab.async false
set_option linter.all false
set_option maxRecDepth 100000
set_option maxHeartbeats 4000000
/-! len(set(a list of truth values)). -/
namespace SetY
open PySem PySem.Spec PyProof.Rows L2 Mi
theorem cnt_step (bs : List Bool) (b : Bool) : cntB (bs ++ [b]) = if decide (b ∈ bs) = true then cntB bs else cntB bs + 1 := by
  unfold cntB
  cases b <;> by_cases h1 : true ∈ bs <;> by_cases h2 : false ∈ bs <;> simp [h1, h2]
theorem cnt_le (bs : List Bool) : cntB bs ≤ 2 := by
  unfold cntB
  split <;> split <;> omega
section
variable {prog : Program} {w : World} {A : Around} {R : Result → Shared → Prop} {I : Addr} {fp wr : List Addr} {G : Array GenState → Array GenState → Prop} {n : Nat} {P : Nat → Value → Prop} {St : Nat → Shared → Prop}
def SB (prog : Program) (w : World) (bs : List Bool) (h : Heap) (a : Addr) : Prop := h.SetOf (PpSet.boolK prog w) a (fun k => decide (k ∈ bs)) (cntB bs)
theorem SB.at {bs : List Bool} {h h' : Heap} {a : Addr} (x : SB prog w bs h a) (k : ∀ o, h.get? a = some o → h'.get? a = some o) : SB prog w bs h' a := by
  obtain ⟨o, es, ep, tb, ho, rest⟩ := x
  exact ⟨o, es, ep, tb, k o ho, rest⟩
theorem addLoop (W : WalksS prog w A.in1 I fp wr G n P St) (a : Addr) (hSf : a ∉ fp) (bs : List Bool) (hn : bs.length = n) (hval : ∀ i v, P i v → ∃ b, bs[i]? = some b ∧ v = .bool b) :
    ∀ (k i : Nat) (s : Shared), n - i = k → i ≤ n → St i s → SB prog w (bs.take i) s.heap a →
      (∀ s', Moved (a :: wr) G s s' → SB prog w bs s'.heap a → R (.ok (.ret .none)) s') → codeAny (model prog w) A (.builtin "set.update.loop" ⟨[.ref a, .ref I], []⟩) R s := by
  have hSw : a ∉ wr := fun h => hSf (W.sub _ h)
  have up : ∀ b ∈ wr, b ∈ a :: wr := fun b hb => List.mem_cons_of_mem _ hb
  intro k
  induction k with
  | zero =>
    intro i s hk hi hst hS hR
    obtain rfl : i = n := by omega
    refine codeAny_builtin F.entry_set_update_loop ?_
    rw [Around.under_plainId F.plain_set_update_loop _]
    show wpAny _ A.in1 (pyNext (.ref I) >>= _) _ _ s
    refine wpAny_bind (W.done s _ _ hst fun s' hm => ?_)
    show wpAny _ A.in1 (ret Value.none) _ _ s'
    rw [← hn, List.take_length] at hS
    exact wpAny_pure (hR s' (hm.mono up) (hS.at fun o e => hm.heap a _ hSw e))
  | succ k ih =>
    intro i s hk hi hst hS hR
    have hlt : i < n := by omega
    refine codeAny_builtin F.entry_set_update_loop ?_
    rw [Around.under_plainId F.plain_set_update_loop _]
    show wpAny _ A.in1 (pyNext (.ref I) >>= _) _ _ s
    refine wpAny_bind (W.item i s _ _ hlt hst fun v s' hP hst' hm => ?_)
    obtain ⟨b, hb, rfl⟩ := hval i v hP
    have hS' : SB prog w (bs.take i) s'.heap a := hS.at fun o e => hm.heap a _ hSw e
    have et : bs.take (i + 1) = bs.take i ++ [b] := by rw [List.take_add_one, hb]; rfl
    show wpAny _ A.in1 (holding [Value.bool b] (setAdd a (.bool b)) >>= _) _ _ s'
    refine wpAny_bind (wpAny_holding ?_)
    unfold setAdd
    refine wpAny_holding (wpAny_bind ((PpSet.boolK prog w).pyHash (k := b) (PpSet.boolK_is prog w b) ?_))
    refine wpAny_setAddHashed_of (knd := PpSet.boolK prog w) (s := { s' with toks := s'.toks + 1 }) (PpSet.boolK_is prog w b) rfl hS' (by have := cnt_le (bs.take i); unfold scanBound; omega) fun h' hsb hS2 => ?_
    have hSi : SB prog w (bs.take (i + 1)) h' a := by
      rw [et]
      refine SetOf_congr hS2 (fun c => ?_) (cnt_step (bs.take i) b).symm
      by_cases h1 : c ∈ bs.take i <;> by_cases h2 : c = b <;> simp [h1, h2]
    refine wpAny_pure ⟨plainId_quiet F.plain_set_update_loop _, ih (i + 1) _ (by omega) hlt (W.frame _ s' _ _ hst' (Nat.le_succ _) fun c hc o e => ?_) hSi fun s2 hm2 hS3 => ?_⟩
    · rw [hsb.2 c fun z => hSf (by rw [← z]; exact hc)]; exact e
    · refine hR s2 (Moved.trans W.gtrans ((hm.mono up).then_heap (Nat.le_succ _) fun c o hc e => ?_) hm2) hS3
      rw [hsb.2 c fun z => hc (by rw [z]; exact List.mem_cons_self)]; exact e
end
theorem bools_at : ∀ {bs : List Bool} {us : List Value}, Vals (bs.map V.bl) us → ∀ (i : Nat) (v : Value), us[i]? = some v → ∃ b, bs[i]? = some b ∧ v = .bool b
  | [], _, .nil, i, v, h => by simp at h
  | b :: bs, _, .cons r t, 0, v, h => by
    cases r
    simp only [List.getElem?_cons_zero, Option.some.injEq] at h
    exact ⟨b, rfl, h.symm⟩
  | b :: bs, _, .cons r t, i + 1, v, h => by
    simp only [List.getElem?_cons_succ] at h
    exact bools_at t i v h
section
variable {prog : Program} {w : World} {A : Around} {E : Value → Shared → Prop} {s : Shared}
/-- what the set's __init__ does with the list -/
theorem set_of {l : Addr} {items : Array Value} {bs : List Bool} {Q : Value → Shared → Prop} (hh : A.handled = none) (hl : s.heap.IsList l items) (hi : Vals (bs.map V.bl) items.toList)
    (h : ∀ (h' : Heap) (tk : Nat), SB prog w bs h' s.heap.objs.size → (∀ b o, b < s.heap.objs.size → s.heap.get? b = some o → h'.get? b = some o) → Q (.ref s.heap.objs.size) { s with heap := h', toks := tk }) :
    wpAny (model prog w) A (call (.type "set") [.ref l]) Q E s := by
  obtain ⟨c, tl, hmro⟩ := F.called_set.mro
  have hmade := F.called_set.made
  have hsub := F.called_set.sub
  refine wpAny_call (codeAny_of_tree ?_)
  show wpAny _ _ (callAny (.type "set") _) _ _ _
  refine wpAny_pure ⟨Code.quiet_builtin _ (by decide +kernel), codeAny_builtin F.entry_type_call ?_⟩
  rw [Around.under_plain (weight_type_call_type "set" [.ref l] []) rfl]
  have h1 := F.called_set.notType
  have h2 := F.called_set.canCreate
  have hct := F.typeCall_set_1 (.ref l)
  repeat (any_goals (first | assumption | wp_step))
  refine codeAny_mono (code_set_new_1 (.ref l) (E := E) (Q₁ := fun v s1 => ∃ led : Bool, v = .ref s.heap.objs.size ∧ s1 = { s with heap := s.heap.push { cls := .type "set", dict := none, data := .set #[] 0 (.fresh 0 0 led) } }) fun led => ⟨led, rfl, rfl⟩) fun r s1 hr => ?_
  cases r with
  | error e => exact hr
  | ok fl =>
    cases fl with
    | ret obj =>
      obtain ⟨led, rfl, rfl⟩ := hr
      have hS : (s.heap.push { cls := .type "set", dict := none, data := .set #[] 0 (.fresh 0 0 led) }).get? s.heap.objs.size = some { cls := .type "set", dict := none, data := .set #[] 0 (.fresh 0 0 led) } := Heap.get?_push_size _ rfl
      have hT : Shared.TypeIs { s with heap := s.heap.push { cls := .type "set", dict := none, data := .set #[] 0 (.fresh 0 0 led) } } (.ref s.heap.objs.size) "set" := ⟨_, hS, rfl⟩
      have hli := F.called_set.init.lookup
      have hbi := F.called_set.init.bind (.ref s.heap.objs.size)
      repeat (any_goals (first | assumption | wp_step))
      refine codeAny_mono (codeAny_call_builtin (R := wants (fun r s2 => r = .none ∧ ∃ h' tk, s2 = { s with heap := h', toks := tk } ∧ SB prog w bs h' s.heap.objs.size ∧
          (∀ b o, b < s.heap.objs.size → s.heap.get? b = some o → h'.get? b = some o)) E) F.called_set.init.plain F.entry_set_init (check_set_init_1 hT ?_)) fun r2 s2 hr2 => ?_
      · obtain ⟨⟨ocls, odict, odata, oslots⟩, hol, hcl, nl, hdl⟩ := hl
        simp only at hcl hdl
        subst hcl; subst hdl
        have hol' : (s.heap.push { cls := .type "set", dict := none, data := .set #[] 0 (.fresh 0 0 led) }).get? l = some { cls := .type "list", dict := odict, data := .seq items nl, slots := oslots } := Heap.get?_push_of_some _ hol
        have hsls := F.sub_list_set
        have hslf := F.sub_list_frozenset
        have hne : (Value.type "list" == Value.type "dict") = false := by decide
        have hl1 : (s.heap.push { cls := .type "set", dict := none, data := .set #[] 0 (.fresh 0 0 led) }).IsList l items := ⟨_, hol', rfl, nl, rfl⟩
        unfold Builtin.«set.__init__» noKeywords Builtin.Frozenset.updateFrom
        generalize hPI : pyIter = PI
        wp_walk
        subst hPI
        refine wpAny_pyIter_list hl1 (wpAny_bind (wpAny_runValue ?_))
        have hlS : l < s.heap.objs.size := Heap.lt_size hol
        have ez : (s.heap.push { cls := .type "set", dict := none, data := .set #[] 0 (.fresh 0 0 led) }).objs.size = s.heap.objs.size + 1 := Heap.size_push ..
        have hneI : l ≠ (s.heap.push { cls := .type "set", dict := none, data := .set #[] 0 (.fresh 0 0 led) }).objs.size := by rw [ez]; exact Nat.ne_of_lt (Nat.lt_succ_of_lt hlS)
        refine addLoop ((Walks.list (by simp [hh]) _ l hneI items).toS) s.heap.objs.size (by rw [ez]; simp only [List.mem_cons, List.not_mem_nil, or_false, not_or]; exact ⟨Nat.ne_of_lt (Nat.lt_succ_self _), Nat.ne_of_gt hlS⟩) bs (by have := hi.length; simpa using this)
          (fun i v hv => bools_at hi i v (by rw [Array.getElem?_toList]; exact hv)) (items.size - 0) 0 _ (by omega) (Nat.zero_le _) ⟨⟨_, Heap.get?_push_size _ rfl, rfl, rfl⟩, (hl1.push _)⟩ ?_ fun s' hm hS' => ?_
        · exact SetOf_congr ((setObjOf_fresh (knd := PpSet.boolK prog w) led).setOf (Heap.get?_push_of_some _ hS) (by unfold scanBound; omega)) (fun _ => rfl) rfl
        · obtain ⟨h', g', d', tk', os'⟩ := s'
          obtain rfl : g' = s.gens := hm.gens
          obtain rfl : d' = s.drawn := hm.drawn
          obtain rfl : os' = s.os := hm.os
          show wpAny _ _ _ _ _ _
          refine wpAny_pure ?_
          show wpAny _ _ (ret Value.none) _ _ _
          refine wpAny_pure ⟨rfl, h', tk', rfl, hS', fun b o hb e => hm.heap b o ?_ (Heap.get?_push_of_some _ (Heap.get?_push_of_some _ e))⟩
          rw [ez]
          simp only [List.mem_cons, List.not_mem_nil, or_false, not_or]
          exact ⟨Nat.ne_of_lt hb, Nat.ne_of_lt (Nat.lt_succ_of_lt hb)⟩
      · cases r2 with
        | error e => exact hr2
        | ok fl2 =>
          cases fl2 with
          | ret r =>
            obtain ⟨rfl, h', tk, rfl, hS', hk'⟩ := hr2
            repeat (any_goals (first | assumption | wp_step))
            exact h _ _ hS' hk'
          | _ => exact hr2.elim
    | _ => exact hr.elim
end
def tLenSetB (K : PySem.W.Frag) (ta : TE) : TE := fun σ H Q => ta σ H fun x H1 => ∃ (l : Addr) (bs : List Bool), x = .ref l ∧ SqL K H1 l (bs.map V.bl) ∧ Q (.int (cntB bs : Nat)) H1
theorem pe_lenSetB {X : Cx} {a : Expr} {ta : TE} {p p2 q pos : Pos} (hc : X.calm = true) (hg : Gl X "len") (hm : X.mg "len" = none) (hg2 : Gl X "set") (hm2 : X.mg "set" = none) (ha : PE X a ta)
    (na : starEach [a] X.env = (false, eval a X.env) :: starEach [] X.env := by rfl) : PE X (.Call (.Name "len" p) [.Call (.Name "set" p2) [a] [] q] [] pos) (tLenSetB X.K ta) := by
  refine ⟨fun pins s σ H Q I h => ?_⟩
  refine Call_ (ld_blt I hg hm PySem.boot_len ?_)
  refine PyProof.Rows.callWith_builtin1 (PyProof.Rows.args_cons ?_ rfl) rfl rfl
  refine Call_ (ld_blt I hg2 hm2 PyProof.Rows.boot_set ?_)
  refine PyProof.Rows.callWith_type1 (PyProof.Rows.args_cons (thn (ha.run pins s σ H _ I h) fun v s1 ⟨x, H1, I1, r1, q1⟩ => PyProof.Rows.args_nil ?_) na) na rfl
  obtain ⟨l, bs, rfl, hq, q1⟩ := q1
  cases r1
  obtain ⟨its, r, pl, hz⟩ := I1.list hq
  refine set_of (I1.ok.hd hc) pl.isList (by simpa using r) fun h' tk hS hk => ?_
  refine PyProof.Rows.args_nil ?_
  obtain ⟨o, es, ep, t, ho, hex, hd, _, _, _, hf, hn⟩ := hS
  have I2 : Inv X pins σ H1 { s1 with heap := h', toks := tk } := I1.kept fun b o e => hk b o (Heap.lt_size e) e
  have hle := cnt_le bs
  exact call_len_set ho hex hd hf (by rw [hn]; omega) ⟨.int (cntB bs : Nat), H1, I2.tok _, ⟨_, by rw [hn]⟩, q1⟩
end SetY
namespace L3
open PySem PySem.Spec PyProof.Rows L2 Mi
theorem RpAll.bls {K : PySem.W.Frag} {H : Hp} {M : Addr → Prop} : ∀ {vs : List V} {ds : List D} {ys : List Bool}, RpAll K H M vs ds → boolsL ds = some ys → vs = ys.map V.bl
  | _, _, _, .nil, e => by cases e; rfl
  | _, .bool b :: ds, ys, .cons r t, e => by
    unfold boolsL at e
    cases e1 : boolsL ds with
    | none => rw [e1] at e; cases e
    | some k' =>
      rw [e1] at e
      cases e
      cases r
      rw [RpAll.bls t e1]
      rfl
  | _, .none :: ds, _, .cons r t, e => by cases e
  | _, .str _ :: ds, _, .cons r t, e => by cases e
  | _, .int _ :: ds, _, .cons r t, e => by cases e
  | _, .list _ :: ds, _, .cons r t, e => by cases e
  | _, .tuple _ :: ds, _, .cons r t, e => by cases e
  | _, .dict _ :: ds, _, .cons r t, e => by cases e
theorem de_lenSet {X : Cx} {T : List (Addr × Str)} {E : XK} {j : Nat} {a : Expr} {f : EF} {p p2 q pos : Pos} (ck : CK X E j) (ha : DE X T E a f) (hm : X.mg "len" = none) (hm2 : X.mg "set" = none) (hg : Gl X "len" := by rfl) (hg2 : Gl X "set" := by rfl)
    (na : starEach [a] X.env = (false, eval a X.env) :: starEach [] X.env := by rfl) : DE X T E (.Call (.Name "len" p) [.Call (.Name "set" p2) [a] [] q] [] pos) (eLenSet f) :=
  pe_imp (SetY.pe_lenSetB ck.calm hg hm hg2 hm2 ha na) fun σ H Q ⟨ρ, α, μ, S, sl, q⟩ => tD_bind S sl q fun v w H1 α1 μ1 st1 S1 sl1 rv q1 => by
    split at q1
    · rename_i l
      split at q1
      · rename_i bs e
        split at q1
        · cases rv with
          | lst h1 n1 rr1 =>
            have hv := rr1.bls e
            subst hv
            exact ⟨_, bs, rfl, .inl h1, q1 _ H1 α1 (.refl _ _ _) S1 (.int _)⟩
        · exact (show False from q1).elim
      · exact (show False from q1).elim
    · exact (show False from q1).elim
end L3

set_option Elab.async false
set_option linter.all false
set_option maxRecDepth 100000
set_option maxHeartbeats 2000000
/-! The def that tells an error's names, called within an except suite; the def that tries a lambda. -/
namespace L3
open PySem PySem.Spec PyProof.Rows L2 Mi
/-! ### a call while an error is handled -/
theorem run_ofSH {CX : CXT} {P : Program} {w : World} {K : PySem.W.Frag} {mg : Str → Option Value} {base : Heap} {k : Nat} {f : Addr} {name qual : Str} {params : Arguments} {body : List Stmt} {scope : Scope} {dV kV doc pm cdv ct oc : Value} {an od : Option Addr}
    {osl : Array (Option Value)} {N ps : List Str} (lk : K.lookup f = some ⟨oc, od, .func (PySem.W.fnOf name qual params body scope dV kV doc pm an cdv ct), osl⟩) (hcd : PySem.W.codeIn K cdv qual = true) (S : FnScope N ps scope)
    {A : Around} {outer : List PySem.Env} {s : Shared} {H : Hp} {args : Args} {us : List Value} {vs : List V} {Q : VK} {E : XK} {p : Addr × Obj} (hr : L2H.RoomH (k + 1) A) (hpin : L2H.PinOk outer H s p) (e0 : Env0 P w K mg base A outer s H)
    (hb : BindsTo s (PySem.W.fnOf name qual params body scope dV kV doc pm an cdv ct) args (ps.zip us)) (r : Vals vs us) (hl : vs.length = ps.length)
    (hbody : L2H.RoomH k (A.deeper (envOfC qual scope s.heap.objs.size f cdv)) → ∃ t, PSs (L2H.cxH CX P w K mg base N qual scope f cdv A outer s H E p) body t ∧ t { nx := fun _ H' => Q .non H', rt := Q } (L2.start N vs) H) :
    codeAny (model P w) A (.call (.ref f) args) (CR CX outer P w H s Q E) s := by
  have KX : K.In s.heap := e0.mod.kin.keeps fun b o e => (e0.bs b o e).1
  have lim : s.heap.NoLimit := e0.mod.nolimit.keeps fun b o e => (e0.bs b o e).1
  have hkind : ∀ y ∈ ps.zip us, scope.names.lookup y.1 = some .local ∨ (scope.names.lookup y.1 = some .cell ∧ ((cellsFrom (s.heap.objs.size + 1) scope.names []).lookup y.1).isSome = true) := fun ⟨n, v⟩ hy => by
    rcases S.par n (List.of_mem_zip hy).1 with q | q
    · exact .inl q
    · exact .inr ⟨q, PySem.W.cellsFrom_some _ _ _ (.inl q)⟩
  refine codeAny_call_function hr.depth (KX _ _ lk) rfl S.co S.gen rfl (PySem.W.codeRec_of KX hcd) (hb _ _ _ _ ?_)
  refine wpAny_newFunctionEnv_cells S.kind hkind fun env he s1 x => ?_
  subst he
  refine ⟨lim.keeps x.toInCall.keep, codeAny_func ?_⟩
  obtain ⟨t, ht, hq⟩ := hbody (hr.deeper _)
  have I : Inv (L2H.cxH CX P w K mg base N qual scope f cdv A outer s H E p) [] (L2.start N vs) H s1 := L2H.inv_startH S hpin e0 hl r x
  refine wpAny_mono (ht.run [] s1 (L2.start N vs) H _ I hq) (fun fl s' hs => ?_) fun e s' hs => hs
  have fin : ∀ {σ' : L2.St} {H' : Hp} {v : V} {u : Value}, Inv (L2H.cxH CX P w K mg base N qual scope f cdv A outer s H E p) [] σ' H' s' → RelV v u → Q v H' → CE outer P w H s Q u s' :=
    fun {σ' H' v u} J rv q => ⟨v, H', J.os, J.bare, J.base, J.hok, rv, q⟩
  cases fl with
  | ret u =>
    obtain ⟨v, σ', H', J, rv, q⟩ := hs
    exact fin J rv q
  | next =>
    obtain ⟨σ', H', J, q⟩ := hs
    exact fin (v := V.non) (u := Value.none) J rfl q
  | brk =>
    obtain ⟨_, _, _, q⟩ := hs
    exact False.elim q
  | cont =>
    obtain ⟨_, _, _, q⟩ := hs
    exact False.elim q
/-- the def x tells the names of an error of a class that row knows -/
structure HasNm (P : Program) (w : World) (K : PySem.W.Frag) (mg : Str → Option Value) (base : Heap) (T : List (Addr × Str)) (k : Nat) (x : Str) (row : Addr → Str → Prop) : Prop where
  ex : ∃ f fd n0, mg x = some (.ref f) ∧ PySem.W.keepIn K (.ref f) = true ∧ Binds K fd [n0] [] ∧
    ∀ (A : Around) (outer : List PySem.Env) (s : Shared) (H : Hp) (args : Args) (a0 D : Addr) (oe : Obj) (nm : Str) (Q : VK) (E : XK) (α : Al) (μ : Sto), L2H.RoomH k A → L2H.Hot1 A (a0, oe) → L2H.PinOk outer H s (a0, oe) → Zc (.ref D) none oe → row D nm →
      Env0 P w K mg base A outer s H → BindsTo s fd args ([n0].zip [.ref a0]) → Stor ⟨K, mg, T⟩ H α μ → PQ ⟨K, mg, T⟩ E Q H α μ (.ok (.d (.str nm)) μ) → codeAny (model P w) A (.call (.ref f) args) (CR (L2N.CX P w) outer P w H s Q E) s
section
variable {P : Program} {w : World} {K : PySem.W.Frag} {mg : Str → Option Value} {base : Heap} {T : List (Addr × Str)}
theorem nm_ok {x n0 : Str} {st : Stmt} {N : List Str} {k : Nat} {row : Addr → Str → Prop} (d : DefFact K mg x st [n0]) (S : FnScope N [n0] (defScope st))
    (hbody : ∀ (f : Addr) (cdv : Value) (A : Around) (outer : List PySem.Env) (s : Shared) (H : Hp) (E : XK) (a0 D : Addr) (oe : Obj) (nm : Str), L2H.Hot1 A (a0, oe) → Zc (.ref D) none oe → row D nm → A.units + 64 + 3 < cLine →
      ∃ F : SF, DSs (L2H.cxH (L2N.CX P w) P w K mg base N x (defScope st) f cdv A outer s H E (a0, oe)) T E (defBody st) F ∧ ∀ μ, F (startE N.length [.x a0]) μ = .rt (.d (.str nm)) μ) : HasNm P w K mg base T (k + 1) x row := by
  obtain ⟨f, fd, dvs, kws, Fu, hm, hb⟩ := d.ex
  obtain ⟨oc, od, dV, kV, doc, pm, an, cdv, ct, osl, rfl, lk, hcd, _, _⟩ := Fu.ex
  refine ⟨f, _, n0, hm, Fu.kp, hb, fun A outer s H args a0 D oe nm Q E α μ hr hot hpin hz hrow e0 hbn S0 q => ?_⟩
  refine run_ofSH (N := N) (ps := [n0]) (us := [.ref a0]) (vs := [.ref a0]) (p := (a0, oe)) lk hcd S hr hpin e0 hbn (.cons rfl .nil) rfl fun hr2 => ?_
  have hu : A.units + 64 + 3 < cLine := by have := hr.un; omega
  obtain ⟨F, hF, e⟩ := hbody f cdv A outer s H E a0 D oe nm hot hz hrow hu
  refine ⟨_, hF, startE N.length [.x a0], α, μ, S0, ⟨?_, ?_⟩, ?_⟩
  · simp only [startE, L2.start, List.length_append, List.length_map, List.length_replicate, List.length_cons, List.length_nil]
  · exact Sl.start (vs := [.ref a0]) (ws := [.x a0]) (.cons rfl .nil) _
  · rw [e]
    exact q
end
section
variable {X : Cx} {T : List (Addr × Str)} {E : XK} {k i : Nat} {pos : Pos}
theorem pe_nm {x n : Str} {row : Addr → Str → Prop} {q1 q2 : Pos} (h : HasNm X.prog X.w X.K X.mg X.base T k x row) (hr : L2H.RoomH k X.A) {a0 D : Addr} {oe : Obj} {nm : Str} (hot : L2H.Hot1 X.A (a0, oe)) (hp : (a0, oe) ∈ X.pn) (hz : Zc (.ref D) none oe) (hrow : row D nm)
    (hN : X.N[i]? = some n) (hv : Vis X.env.scope n) (hg : Gl X x := by rfl) (hdb : (x == ("__debug__" : Str)) = false := by decide) (hd : (n == ("__debug__" : Str)) = false := by decide) (hcd : (n == ("__classdict__" : Str)) = false := by decide)
    (he : starEach [.Name n q2] X.env = (false, eval (.Name n q2) X.env) :: starEach [] X.env := by rfl) (hpl : (backTo pos (starEach [] X.env)).any (·.1) = false := by rfl) :
    PE X (.Call (.Name x q1) [.Name n q2] [] pos) (fun σ H Q => σ[i]? = some (some (.ref a0)) ∧ ∃ α μ, Stor (CvX X T) H α μ ∧ PQ (CvX X T) E0 Q H α μ (.ok (.d (.str nm)) μ)) := by
  refine ⟨fun pins s σ H Q I hh => ?_⟩
  obtain ⟨hs, α, μ, S, q⟩ := hh
  obtain ⟨f, fd, n0, hm, hk, hb, run⟩ := h.ex
  refine wpAny_Call_Name_kw (ld_glob I hg hm ?_ hdb)
  refine PySem.W.callWith_K (h₀ := X.base) I.ok.mod.kin hk (thn ((pa_cons (pe_var (pos := q2) hN hv hd hcd) pa_nil he).run pos pins s σ H (fun vs H1 => vs = [.ref a0] ∧ H1 = H) I ⟨_, hs, rfl, rfl⟩) fun us s1 ⟨vs, H1, I1, r, e1, e2⟩ => ⟨I1.kIn, ?_⟩) he hpl
  subst e1 e2
  cases r with
  | cons r1 rr =>
    cases rr
    cases r1
    have P1 := I1.pin (a0, oe) (List.mem_append_left _ hp)
    have hpin : L2H.PinOk X.stack H1 s1 (a0, oe) := ⟨P1.1, P1.2.1, fun hm => (List.mem_cons.mp (I1.stkSub a0 hm)).elim P1.2.2.1 P1.2.2.2.1, P1.2.2.2.2⟩
    have b := hb s1 [.ref a0] I1.kIn rfl
    refine wpAny_call (codeAny_mono (run X.A X.stack s1 H1 ⟨[.ref a0], []⟩ a0 D oe nm Q E0 α μ hr hot hpin hz hrow I1.env0 b S q) fun r s' hq => ?_)
    cases r with
    | error e =>
      obtain ⟨_, _, _, _, _, _, _, _, _, _, _, _, z⟩ := hq
      exact z.elim
    | ok fl =>
      cases fl with
      | ret u => exact I1.after hq
      | next => exact False.elim hq
      | brk => exact False.elim hq
      | cont => exact False.elim hq
end
/-! ### lambdas -/
/-- where the lambdas of the block are kept -/
def LamAt (X : Cx) (T : List (Addr × Str)) : Prop := ∃ c P, X.env.code = .ref c ∧ LamX.TabB X.base X.mg c P ∧ (P, X.env.qual ++ "<lambda>") ∈ T ∧ ∀ p ∈ T, p.1 = P → p.2 = X.env.qual ++ "<lambda>"
theorem extN_step {C : Cv} {H H1 : Hp} {α : Al} {μ : Sto} (S : Stor C H α μ) (e : LamX.ExtN H H1) (t : LamX.Tabs C.T H1) : Step H α μ H1 α μ ∧ Stor C H1 α μ := by
  have ex : Ext H (Own α μ) H1 (Own α μ) := ⟨fun b o h n t => ⟨e b o h t, n⟩, fun b xs h => e b _ h (fun _ z => by cases z), fun b o u h => e b _ h (fun _ z => by cases z)⟩
  refine ⟨⟨ex, fun _ _ h => h, rfl, fun b hb => ?_⟩, ⟨S.len, S.nd, fun a h => ?_, fun k c h => ?_, t⟩⟩
  · obtain ⟨o, q, n⟩ := S.there b (List.mem_append_right _ hb)
    rw [q]
    exact e b o q n
  · obtain ⟨o, q, n⟩ := S.there a h
    exact ⟨o, e a o q n, n⟩
  · obtain ⟨a, h1, h2⟩ := S.cell k c h
    refine ⟨a, h1, ?_⟩
    cases c with
    | lst l => obtain ⟨ys, e1, e2⟩ := h2; exact ⟨ys, e _ _ e1 (fun _ z => by cases z), e2.ext ex⟩
    | ins c fs => obtain ⟨A, dx, gs, e1, e2, e3, e4⟩ := h2; exact ⟨A, dx, gs, e1, e _ _ e2 (fun _ z => by cases z), e3, e4.ext ex⟩
abbrev lamCxN (X : Cx) (A : Around) (outer : List PySem.Env) (s : Shared) (H : Hp) (E : XK) (scope : Scope) (f c' : Addr) : Cx :=
  (LamX.lamCx X A outer s H E scope f c').tr [] (fun e s' => wpAny (model X.prog X.w) (A.deeper (LamX.lamEnv X scope s.heap.objs.size f c')) (leaving (LamX.lamEnv X scope s.heap.objs.size f c') e) (fun _ s'' => L2N.CX X.prog X.w outer H s E e s'') (fun e' s'' => L2N.CX X.prog X.w outer H s E e' s'') s')
section
variable {X : Cx} {pins : List (Addr × Obj)} {σ : L2.St} {H HZ : Hp} {s s1 : Shared}
/-- x(), in the def that got the lambda -/
theorem pe_actN {Eg : XK} {Ng : List Str} {qg : Str} {sg : Scope} {g f c' : Addr} {cdg pm ctv : Value} {params : Arguments} {body : Expr} {scope : Scope} {k i : Nat} {a : Str} {pn : List (Addr × Obj)} {xe : Value → Shared → Prop} {W : WX} {tb : XK → TE} {p1 p2 : Pos}
    (I : Inv X pins σ H s) (L : LamX.LamS X.env.scope scope) (hf : s.heap.get? f = some (PySem.W.kla_obj "<lambda>" (X.env.qual ++ "<lambda>") params body scope (cloFrom X.env.cells scope.names []) pm c' ctv)) (hfn : H f = none) (hfr : f ∉ frs X.stack)
    (hbind : bindArgs (PySem.W.kla_fn "<lambda>" (X.env.qual ++ "<lambda>") params body scope (cloFrom X.env.cells scope.names []) pm (.ref c') ctv) ⟨[], []⟩ = pure [])
    (tk : L2N.Takes ((cxOf (L2N.CX X.prog X.w) X.prog X.w X.K X.mg X.base Ng qg sg g cdg X.A X.stack s H Eg).tr pn xe) W) (hr : Room (k + 1) (X.A.deeper (envOfC qg sg s.heap.objs.size g cdg)))
    (hbody : ∀ (A : Around) (outer : List PySem.Env) (s : Shared) (H : Hp) (E : XK), Room k (A.deeper (LamX.lamEnv X scope s.heap.objs.size f c')) → PE (lamCxN X A outer s H E scope f c') body (tb E))
    (hN : Ng[i]? = some a) (hv : Vis sg a) (hd : (a == ("__debug__" : Str)) = false := by decide) (hcd : (a == ("__classdict__" : Str)) = false := by decide) :
    PE ((cxOf (L2N.CX X.prog X.w) X.prog X.w X.K X.mg X.base Ng qg sg g cdg X.A X.stack s H Eg).tr pn xe) (.Call (.Name a p1) [] [] p2)
      (fun σZ HZ Q => σZ[i]? = some (some (.ref f)) ∧ HZ c' = some (LamX.CodeO c' (X.env.qual ++ "<lambda>")) ∧ tb (WE W σZ) σ HZ Q) := by
  refine ⟨fun pinsZ sZ σZ HZ Q IZ h => ?_⟩
  obtain ⟨hs, hc, ht⟩ := h
  refine wpAny_Call_Name_kw (thn ((pe_var (pos := p1) (i := i) hN hv hd hcd).run pinsZ sZ σZ HZ (fun v H1 => v = .ref f ∧ H1 = HZ) IZ ⟨.ref f, hs, rfl, rfl⟩) fun u s1 ⟨v, H1, I1, r1, q1⟩ => ?_)
  obtain ⟨ev, eH⟩ := q1
  subst ev
  rw [eH] at I1
  obtain rfl : u = Value.ref f := r1
  have of1 : s1.heap.get? f = some (PySem.W.kla_obj "<lambda>" (X.env.qual ++ "<lambda>") params body scope (cloFrom X.env.cells scope.names []) pm c' ctv) := I1.base.keep f _ hf hfn hfr (fun z => nomatch (show f ∈ ([] : List Addr) from z))
  refine PySem.W.callWith_F0 ⟨_, _, _, _, of1⟩ ?_
  have un : Un (frs X.stack) [] H HZ s.heap s1.heap := I1.base
  obtain ⟨⟨oc, vs, t, hoc, hdc, hvc⟩, _, _⟩ := I1.hok c' _ hc
  have rc : codeAny (model X.prog X.w) (X.A.deeper (envOfC qg sg s.heap.objs.size g cdg)) (.call (.ref f) ⟨[], []⟩) (CR (L2N.CX X.prog X.w) (envOfC qg sg s.heap.objs.size g cdg :: X.stack) X.prog X.w HZ s1 Q (WE W σZ)) s1 := by
    refine PySem.W.kla_callFunE hr.depth of1 rfl L.co L.gen rfl ⟨c', oc, vs, t, rfl, hoc, hdc, hvc⟩ ?_
    rw [hbind]
    refine wpAny_pure (wpAny_newFunctionEnv (fun y hy => (L.own y hy).2) (fun y hy => absurd hy (by simp)) (fun h₁ hns hsb => ⟨I1.nolimit.fresh _ hsb, ?_⟩) L.kind)
    show codeAny _ _ (.expr body (LamX.lamEnv X scope s1.heap.objs.size f c')) _ _
    have kp : ∀ b o, s1.heap.get? b = some o → h₁.get? b = some o := fun b o e => hsb.extBut b o (Nat.ne_of_lt (Heap.lt_size e)) (Heap.get?_push_of_some _ e)
    have J0 : Inv (LamX.lamCx X (X.A.deeper (envOfC qg sg s.heap.objs.size g cdg)) (envOfC qg sg s.heap.objs.size g cdg :: X.stack) s1 HZ (WE W σZ) scope f c') [] σ HZ { s1 with heap := h₁, toks := s1.toks + ([] : List (Str × Value)).length } :=
      LamX.lam_start2 I L I1.env0 hr.hd un hns kp
    have J := J0.toTry (fun e s' => wpAny (model X.prog X.w) ((X.A.deeper (envOfC qg sg s.heap.objs.size g cdg)).deeper (LamX.lamEnv X scope s1.heap.objs.size f c')) (leaving (LamX.lamEnv X scope s1.heap.objs.size f c') e) (fun _ s'' => L2N.CX X.prog X.w (envOfC qg sg s.heap.objs.size g cdg :: X.stack) HZ s1 (WE W σZ) e s'') (fun e' s'' => L2N.CX X.prog X.w (envOfC qg sg s.heap.objs.size g cdg :: X.stack) HZ s1 (WE W σZ) e' s'') s')
    refine PySem.W.kla_codeExpr (wpAny_mono ((hbody _ _ s1 HZ (WE W σZ) (hr.deeper _)).run [] _ _ HZ Q J ht) (fun v s' hq => ?_) fun e s' hq => hq)
    obtain ⟨w', H', J', rv, q⟩ := hq
    exact ⟨w', H', J'.os, J'.bare, J'.base, J'.hok, rv, q⟩
  have hx := L2N.passAt tk σZ
  refine wpAny_call (codeAny_mono rc fun r s' hq => ?_)
  cases r with
  | error e => exact hx pinsZ HZ s1 e s' I1 hq
  | ok fl =>
    cases fl with
    | ret u => exact I1.after hq
    | next => exact False.elim hq
    | brk => exact False.elim hq
    | cont => exact False.elim hq
end
/-- the def that tries what it gets, and tells the error's names -/
structure HasTry (P : Program) (w : World) (K : PySem.W.Frag) (mg : Str → Option Value) (base : Heap) (T : List (Addr × Str)) (k : Nat) (x : Str) (nm : Exn → Option Str) : Prop where
  ex : ∃ (st : Stmt) (row : Addr → Str → Prop) (CS : Addr), DefFact K mg x st ["call"] ∧ FnScope ["call", "e"] ["call"] (defScope st) ∧
    (∃ (j : Nat) (p1 p2 p3 p4 p5 p6 p7 p8 p9 p10 p11 p12 : Pos), defBody st = [.Try [.Expr (.Call (.Name "call" p1) [] [] p2) p3] [.ExceptHandler (some (.Name "WalkError" p4)) (some "e") [.Return (some (.Call (.Name "_law_names" p5) [.Name "e" p6] [] p7)) p8] p9] [] [] p10, .Return (some (.Constant (.str "") j p11)) p12]) ∧
    (defScope st).names.lookup ("WalkError" : Str) = some .globalImplicit ∧ (defScope st).names.lookup ("_law_names" : Str) = some .globalImplicit ∧ (defScope st).names.lookup ("e" : Str) = some .local ∧ (defScope st).names.lookup ("call" : Str) = some .local ∧
    HasNm P w K mg base T k "_law_names" row ∧ mg "WalkError" = some (.ref CS) ∧
    ∀ x s, nm x = some s → x.arg = none ∧ ∃ D, mg x.cls = some (.ref D) ∧ PySem.W.exmOne K (.ref D) (.ref CS) = some true ∧ row D s
theorem PQ.cut {C : Cv} {E : XK} {Q : VK} {H : Hp} {α : Al} {μ μ1 : Sto} {o : Option W} (h : PQ C E Q H α μ (Mi.ofO o μ1)) : ∃ w, o = some w ∧ PQ C E Q H α μ (.ok w μ1) := by
  cases o with
  | none => exact (show False from h).elim
  | some w => exact ⟨w, rfl, h⟩
theorem noTakes {X : Cx} : L2N.Takes X (fun _ _ _ _ => False) := fun _ _ x => by
  obtain ⟨_, _, _, _, _, _, _, _, _, _, _, _, _, _, _, _, z⟩ := x
  exact z.elim
section
variable {X : Cx} {T : List (Addr × Str)} {E : XK} {j k kn : Nat} {pos : Pos}
theorem de_try {x : Str} {nm : Exn → Option Str} {f : EF} {params : Arguments} {body : Expr} {scope : Scope} {p lpos : Pos} (hT : HasTry X.prog X.w X.K X.mg X.base T kn x nm) (la : LamAt X T) (ck : CK X E j) (hbody : ∀ (A : Around) (outer : List PySem.Env) (s : Shared) (H : Hp) (E : XK) (g c' : Addr), CK (lamCxN X A outer s H E scope g c') E k → DE (lamCxN X A outer s H E scope g c') T E body f)
    (hk : k + 2 ≤ j := by decide) (hkn : kn ≤ k := by decide) (L : LamX.LamS X.env.scope scope := by exact LamX.lamS_by (by kernel_rfl)) (hdef : defaultsOf params X.env = ([], []) := by rfl)
    (hbind : ∀ (q : Str) (cl : List (Str × Addr)) (pm cv ctv : Value), bindArgs (PySem.W.kla_fn "<lambda>" q params body scope cl pm cv ctv) ⟨[], []⟩ = pure [] := by intros; rfl) (hg : Gl X x := by rfl) (hdb : (x == ("__debug__" : Str)) = false := by decide) :
    DE X T E (.Call (.Name x p) [.Lambda params body scope lpos] [] pos) (eTry nm f) := by
  refine ⟨fun pins s σ H Q I ⟨ρ, α, μ, S, sl, q⟩ => ?_⟩
  obtain ⟨st, row, CS, df, Sg, ⟨jj, p1, p2, p3, p4, p5, p6, p7, p8, p9, p10, p11, p12, hB⟩, gW, gN, gE, gC, hn, hW, hnm⟩ := hT.ex
  obtain ⟨g, fd, dvs, kws, Fu, hm, hb⟩ := df.ex
  obtain ⟨oc, od, dV, kV, doc, pm, an, cdv, ct, osl, rfl, lk, hcd, _, _⟩ := Fu.ex
  obtain ⟨c, P, hcode, TB, hmT, hu⟩ := la
  have hr : Room (k + 2) X.A := ck.room.mono hk
  refine wpAny_Call_Name_kw (ld_glob I hg hm ?_ hdb)
  refine PySem.W.callWith_K (h₀ := X.base) I.ok.mod.kin Fu.kp ?_ (by rfl) (by rfl)
  show wpAny _ _ (spliced ((false, eval (.Lambda params body scope lpos) X.env) :: backTo pos (starEach [] X.env))) _ _ s
  refine Calls.spliced_cons (LamX.lam_make2 I TB hcode hmT hu S.tabs hdef (L.has I.ok) fun f' c' pm' ctv H1 s' I1 eN T1 hf hfn hfr hco => ?_)
  refine Calls.spliced_nil ⟨I1.kIn, ?_⟩
  obtain ⟨st1, S1⟩ := extN_step S eN T1
  have sl1 := sl.step st1
  have q1 := PQ.step q st1
  have rc : codeAny (model X.prog X.w) X.A (.call (.ref g) ⟨[.ref f'], []⟩) (CR (L2N.CX X.prog X.w) X.stack X.prog X.w H1 s' Q E0) s' := by
    refine LamX.run_ofS (N := ["call", "e"]) (ps := ["call"]) (us := [.ref f']) (vs := [.ref f']) lk hcd Sg hr I1.env0 (hb s' [.ref f'] I1.kIn rfl) (.cons rfl .nil) rfl fun hr' => ?_
    rw [hB]
    have hB2 : ∀ (A : Around) (outer : List PySem.Env) (s2 : Shared) (H2 : Hp) (E2 : XK), Room k (A.deeper (LamX.lamEnv X scope s2.heap.objs.size f' c')) → PE (lamCxN X A outer s2 H2 E2 scope f' c') body (tD (CvX X T) E2 f) := fun A outer s2 H2 E2 hr2 =>
      hbody A outer s2 H2 E2 f' c' ⟨rfl, ck.nd, hr2, L2N.takes_of rfl rfl rfl rfl⟩
    refine ⟨_, pss_cons (L2N.ps_try_as (X := cxOf (L2N.CX X.prog X.w) X.prog X.w X.K X.mg X.base ["call", "e"] x (defScope st) g cdv X.A X.stack s' H1 E0) (i := 1) (c := .ref CS)
      (tb := fun W => tDrop (fun σZ HZ Q => σZ[0]? = some (some (.ref f')) ∧ HZ c' = some (LamX.CodeO c' (X.env.qual ++ "<lambda>")) ∧ tD (CvX X T) (WE W σZ) f σ HZ Q))
      (ts := fun a cls d D σ H => ∃ D0 nm, cls = .ref D0 ∧ d = none ∧ row D0 nm ∧ σ[1]? = some (some (.ref a)) ∧ ∃ α μ, Stor (CvX X T) H α μ ∧ PQ (CvX X T) E0 D.rt H α μ (.ok (.d (.str nm)) μ))
      (Wout := fun _ _ _ _ => False) rfl rfl Sg.nd rfl gE ⟨gW, by decide, .inl hW⟩ noTakes (fun W pn xe tk _ => pss_one (ps_expr (pe_actN I1 L hf hfn hfr (hbind _ _ _ _ _) tk hr' hB2 rfl (.inl gC)) rfl)) fun a oe cls d pn hz hfl => ?_) (pss_one (ps_ret pe_str)), ?_⟩
    · refine ⟨fun pins2 s2 σ2 H2 D2 I2 h2 => ?_⟩
      obtain ⟨D0, nm0, rfl, rfl, hrow, hs, α2, μ2, S2, q2⟩ := h2
      obtain ⟨vs, hv⟩ := hfl
      have hrm : L2H.RoomH kn ((X.A.deeper (envOfC x (defScope st) s'.heap.objs.size g cdv)).mark (some (.ref a))) := L2H.RoomH.mono ⟨hr'.dp, hr'.un⟩ (by omega)
      exact (pss_one (ps_ret (pe_nm (X := (cxOf (L2N.CX X.prog X.w) X.prog X.w X.K X.mg X.base ["call", "e"] x (defScope st) g cdv X.A X.stack s' H1 E0).suite a ((a, oe) :: pn)) (i := 1) hn hrm (a0 := a) (oe := oe) ⟨rfl, vs, hv, hz.2.2 vs hv⟩ List.mem_cons_self hz.zc hrow rfl (.inl gE) gN))).run pins2 s2 σ2 H2 D2 I2 ⟨hs, α2, μ2, S2, q2⟩
    · refine ⟨rfl, hco, ρ, α, μ, S1, sl1, ?_⟩
      have q1 : PQ (CvX X T) E Q H1 α μ (match f ρ μ with
        | .ok _ μ1 => .ok (.d (.str "")) μ1
        | .er x μ1 => ofO ((nm x).map fun s => W.d (.str s)) μ1
        | .no => .no) := q1
      cases e : f ρ μ with
      | no => rw [e] at q1; exact q1.elim
      | ok w μ1 =>
        rw [e] at q1
        exact fun v H' α' st2 S2 _ => q1 (.str "") H' α' st2 S2 (.str _)
      | er y μ1 =>
        rw [e] at q1
        have q1 : PQ (CvX X T) E Q H1 α μ (ofO ((nm y).map fun s => W.d (.str s)) μ1) := q1
        obtain ⟨z, ez, q2⟩ := PQ.cut q1
        cases en : nm y with
        | none => rw [en] at ez; cases ez
        | some t =>
          rw [en] at ez
          cases ez
          obtain ⟨ha, D0, hm0, hx0, hrow⟩ := hnm y t en
          intro cls d H' α' st2 S2 rx
          obtain ⟨r1, r2⟩ := rx
          have r1 : X.mg y.cls = some cls := r1
          rw [hm0] at r1
          cases r1
          rw [ha] at r2
          obtain rfl := r2
          exact ⟨true, hx0, fun _ a na => ⟨D0, t, rfl, rfl, hrow, rfl, α', μ1, S2, fun v H3 α3 st3 S3 r3 => q2 v H3 α3 (st2.trans st3) S3 r3⟩, fun z => nomatch z⟩
  refine wpAny_call (codeAny_mono rc fun r s2 hq => ?_)
  cases r with
  | error e =>
    obtain ⟨_, _, _, _, _, _, _, _, _, _, _, _, z⟩ := hq
    exact z.elim
  | ok fl =>
    cases fl with
    | ret u => exact I1.after hq
    | next => exact False.elim hq
    | brk => exact False.elim hq
    | cont => exact False.elim hq
end
/-- what isinstance answers of the class at D -/
structure NmRow (K : PySem.W.Frag) (mg : Str → Option Value) (D : Addr) (b : Nat → Bool) : Prop where
  exc : ExcC K D
  own : ∀ (i : Nat) (x : Str) (A : Addr), ownCls[i]? = some x → mg x = some (.ref A) → PySem.W.kitOne K (.ref D) (.ref A) = some (b i)
  val : PySem.W.kitOne K (.ref D) (.type "ValueError") = some (b 16)
def NmR (K : PySem.W.Frag) (mg : Str → Option Value) : Addr → Str → Prop := fun D s => ∃ i, labs[i]? = some s ∧ NmRow K mg D (bOf i)
/-- what is known of an own class that is raised -/
def ClsRow (K : PySem.W.Frag) (mg : Str → Option Value) (x : Str) : Prop := ∃ i D CS, ownCls.idxOf? x = some i ∧ mg x = some (.ref D) ∧ mg "WalkError" = some (.ref CS) ∧ PySem.W.exmOne K (.ref D) (.ref CS) = some true ∧ NmRow K mg D (bOf i)
section
variable {P : Program} {w : World} {K : PySem.W.Frag} {mg : Str → Option Value} {base : Heap} {T : List (Addr × Str)} {k : Nat}
theorem try_ok {st : Stmt} {cl : List Str} (df : DefFact K mg "_law_error" st ["call"]) (Sg : FnScope ["call", "e"] ["call"] (defScope st))
    (hB : ∃ (j : Nat) (p1 p2 p3 p4 p5 p6 p7 p8 p9 p10 p11 p12 : Pos), defBody st = [.Try [.Expr (.Call (.Name "call" p1) [] [] p2) p3] [.ExceptHandler (some (.Name "WalkError" p4)) (some "e") [.Return (some (.Call (.Name "_law_names" p5) [.Name "e" p6] [] p7)) p8] p9] [] [] p10, .Return (some (.Constant (.str "") j p11)) p12])
    (g1 : (defScope st).names.lookup ("WalkError" : Str) = some .globalImplicit) (g2 : (defScope st).names.lookup ("_law_names" : Str) = some .globalImplicit) (g3 : (defScope st).names.lookup ("e" : Str) = some .local) (g4 : (defScope st).names.lookup ("call" : Str) = some .local)
    (hn : HasNm P w K mg base T k "_law_names" (NmR K mg)) (hW : ∃ CS, mg "WalkError" = some (.ref CS)) (hc : ∀ x ∈ cl, ClsRow K mg x) : HasTry P w K mg base T k "_law_error" (nmC cl) := by
  obtain ⟨CS, hW⟩ := hW
  refine ⟨st, NmR K mg, CS, df, Sg, hB, g1, g2, g3, g4, hn, hW, fun x s h => ?_⟩
  unfold nmC at h
  split at h
  · cases h
  · rename_i ha
    split at h
    · rename_i hx
      obtain ⟨i, D, CS', h1, h2, h3, h4, h5⟩ := hc x.cls (by simpa using hx)
      rw [h1] at h
      rw [h3] at hW
      cases hW
      exact ⟨ha, D, h2, h4, i, h, h5⟩
    · cases h
end
/-! ### a def with lambdas -/
def qLam (x : Str) : Str := x ++ ".<locals>." ++ "<lambda>"
/-- .. its function object told -/
structure DefL (K : PySem.W.Frag) (mg : Str → Option Value) (base : Heap) (T : List (Addr × Str)) (x : Str) (st : Stmt) (ps : List Str) (f : Addr) (fd : FuncData) : Prop where
  fu : ∃ dvs kws, FunD K x x (defArgs st) (defBody st) (defScope st) dvs kws f fd
  hm : mg x = some (.ref f)
  hb : Binds K fd ps []
  code : ∃ c P, fd.code = .ref c ∧ LamX.TabB base mg c P ∧ (P, qLam x) ∈ T ∧ ∀ p ∈ T, p.1 = P → p.2 = qLam x
section
variable {P : Program} {w : World} {K : PySem.W.Frag} {mg : Str → Option Value} {base : Heap} {T : List (Addr × Str)}
theorem fn_okF {x : Str} {st : Stmt} {N ps : List Str} {k : Nat} {F : SF} {f : Addr} {fd : FuncData} (d : DefL K mg base T x st ps f fd) (S : FnScope N ps (defScope st))
    (hbody : ∀ (f : Addr) (cdv : Value) (A : Around) (outer : List PySem.Env) (s : Shared) (H : Hp) (E : XK), CK (cxOf (L2N.CX P w) P w K mg base N x (defScope st) f cdv A outer s H E) E k →
      PassesOwn (model P w) (cxOf (L2N.CX P w) P w K mg base N x (defScope st) f cdv A outer s H E).A (cxOf (L2N.CX P w) P w K mg base N x (defScope st) f cdv A outer s H E).env (cxOf (L2N.CX P w) P w K mg base N x (defScope st) f cdv A outer s H E).xe →
      LamAt (cxOf (L2N.CX P w) P w K mg base N x (defScope st) f cdv A outer s H E) T →
      DSs (cxOf (L2N.CX P w) P w K mg base N x (defScope st) f cdv A outer s H E) T E (defBody st) F) : FnOk P w K mg base (L2N.CX P w) (k + 1) f fd ps (spD ⟨K, mg, T⟩ (fnOf ps.length N.length F)) := by
  obtain ⟨⟨dvs, kws, Fu⟩, hm, hb, c, PP, hcd, TB, hT, hu⟩ := d
  obtain ⟨oc, od, dV, kV, doc, pm, an, cdv, ct, osl, rfl, lk, hcdi, _, _⟩ := Fu.ex
  obtain rfl : cdv = .ref c := hcd
  refine fn_of lk hcdi S (fun vs H Q E h => ?_) fun A outer s H vs Q E hr h => ?_
  · obtain ⟨ws, α, μ, S, rs, q⟩ := h
    unfold fnOf at q
    split at q
    · rename_i hl
      rw [rs.length]
      exact hl
    · exact q.elim
  · obtain ⟨ws, α, μ, St, rs, q⟩ := h
    have tk : L2N.Takes (cxOf (L2N.CX P w) P w K mg base N x (defScope st) f (.ref c) A outer s H E) (fun cls d _ H => E cls d H) := L2N.takes_of rfl rfl rfl rfl
    refine ⟨_, hbody f (.ref c) A outer s H E ⟨rfl, S.nd, hr, tk⟩ (passes_of rfl) ⟨c, PP, rfl, TB, hT, hu⟩, ?_⟩
    unfold fnOf at q
    split at q
    · rename_i hl
      refine ⟨startE N.length ws, α, μ, St, ⟨?_, ?_⟩, fin_ok (D := { nx := fun _ H' => Q .non H', rt := Q }) St ⟨rfl, rfl⟩ q⟩
      · have e := rs.length
        simp only [startE, L2.start, List.length_append, List.length_map, List.length_replicate, e]
      · have e := rs.length
        have z := Sl.start rs (N.length - ws.length)
        unfold startE L2.start
        rw [e]
        exact z
    · exact q.elim
/-- .. not told which -/
structure LamF (K : PySem.W.Frag) (mg : Str → Option Value) (base : Heap) (T : List (Addr × Str)) (x : Str) (st : Stmt) (ps : List Str) : Prop where
  ex : ∃ f fd, DefL K mg base T x st ps f fd
theorem DefL.has {x : Str} {st : Stmt} {ps : List Str} {k : Nat} {f : Addr} {fd : FuncData} {g : GF} (d : DefL K mg base T x st ps f fd) (h : FnOk P w K mg base (L2N.CX P w) k f fd ps (spD ⟨K, mg, T⟩ g)) : HasFn P w K mg base T k x g := by
  obtain ⟨⟨dvs, kws, Fu⟩, hm, hb, _⟩ := d
  exact ⟨f, fd, ps, [], [], [], _, hm, Fu.kp, hb, .nil, fun _ _ => .nil, fun ws μ => by rw [List.map_nil, List.append_nil], h⟩
theorem fn_okL {x : Str} {st : Stmt} {N ps : List Str} {k : Nat} {F : SF} (d : LamF K mg base T x st ps) (S : FnScope N ps (defScope st))
    (hbody : ∀ (f : Addr) (cdv : Value) (A : Around) (outer : List PySem.Env) (s : Shared) (H : Hp) (E : XK), CK (cxOf (L2N.CX P w) P w K mg base N x (defScope st) f cdv A outer s H E) E k →
      PassesOwn (model P w) (cxOf (L2N.CX P w) P w K mg base N x (defScope st) f cdv A outer s H E).A (cxOf (L2N.CX P w) P w K mg base N x (defScope st) f cdv A outer s H E).env (cxOf (L2N.CX P w) P w K mg base N x (defScope st) f cdv A outer s H E).xe →
      LamAt (cxOf (L2N.CX P w) P w K mg base N x (defScope st) f cdv A outer s H E) T →
      DSs (cxOf (L2N.CX P w) P w K mg base N x (defScope st) f cdv A outer s H E) T E (defBody st) F) : HasFn P w K mg base T (k + 1) x (fnOf ps.length N.length F) := by
  obtain ⟨f, fd, tl⟩ := d.ex
  exact tl.has (fn_okF tl S hbody)
end
end L3

set_option Elab.async false
set_option linter.all false
set_option maxRecDepth 100000
set_option maxHeartbeats 2000000
/-! Defs as values: a comprehension over several defs, a call of a name that holds one. -/
namespace L3
open PySem PySem.Spec PyProof.Rows L2 Mi
section
variable {X : Cx} {T : List (Addr × Str)} {E : XK} {j : Nat} {pos : Pos} {a : Expr} {es : List Expr} {f g : EF} {r : AF}
theorem RpWs.get {C : Cv} {H : Hp} {α : Al} {μ : Sto} : ∀ {vs : List V} {ws : List W} {i : Nat} {w : W}, RpWs C H α μ vs ws → ws[i]? = some w → ∃ v, vs[i]? = some v ∧ RpW C H α μ v w
  | _, _, _, _, .nil, e => by simp at e
  | _, _, 0, _, .cons r _, e => by simp at e; subst e; exact ⟨_, rfl, r⟩
  | _, _, i + 1, w, .cons _ t, e => by
    obtain ⟨v, h1, h2⟩ := RpWs.get (i := i) (w := w) t (by simpa using e)
    exact ⟨v, by simpa using h1, h2⟩
theorem rpw_inv {C : Cv} {P : Addr} {H1 H2 : Hp} {α1 α2 : Al} {μ1 μ2 : Sto} {n : Nat} {accD : List PyData} {acc : List V} (I : LcInv C P H1 α1 μ1 n accD H2 α2 μ2 acc) {v : V} {w : W} (h : RpW C H1 α1 μ1 v w) : RpW C H2 (α2.hide P) μ2 v w := by
  cases w with
  | d d => exact Rp.ext I.ext h
  | m k => obtain ⟨a, h3, h4⟩ := h; exact ⟨a, I.pre _ _ h3, h4⟩
  | f x => exact h
  | x k => exact h
theorem wipe_set {σ : L2.St} {vs : List Nat} {i : Nat} {o : Option V} (h : i ∈ vs) : L2.wipe ((L2.wipe σ vs).set i o) vs = L2.wipe σ vs := by
  refine List.ext_getElem? fun k => ?_
  rw [wipe_at, wipe_at, List.getElem?_set]
  by_cases hk : k ∈ vs
  · rw [if_pos hk, if_pos hk, L2.wipe_length]
    by_cases e : i = k
    · subst e
      rw [if_pos rfl]
      by_cases hl : i < σ.length
      · rw [if_pos hl, List.getElem?_eq_getElem hl]
        rfl
      · rw [if_neg hl, List.getElem?_eq_none (by omega)]
    · rw [if_neg e, wipe_at, if_pos hk, Option.map_map]
      rfl
  · rw [if_neg hk, if_neg hk, if_neg (fun e => hk (by rw [← e]; exact h)), wipe_at, if_neg hk]
theorem lcW_rd {vs : List Nat} {i : Nat} {σ : L2.St} {H : Hp} {Q : VK} (hr : DA X T E es r) (hl : es.length ≤ 1000) (hw : i ∈ vs) (q : tD (CvX X T) E (eLcW vs i r g) σ H Q) :
    tLc (iTup X.K (tTup (tDs (CvX X T) E r))) (gName i) tYes (tD (CvX X T) E0 g) vs σ H Q := by
  obtain ⟨ρ, α, μ, S, sl, q⟩ := q
  refine hr.read (C := CvX X T) (k := fun ws μ1 => lcW i g (wipeE ρ vs) ws [] μ1) S sl q fun us ws H0 α1 μ1 st0 S0 sl0 rs0 ln q1 => ?_
  refine ⟨by rw [rs0.length, ln]; exact Nat.le_trans hl (by decide), fun p np => ⟨p, rfl, ⟨us, .inl (.inl upd_same)⟩, fun P nP => ?_⟩⟩
  have sm := same_upd (o := .tup us) np
  have st1 := Same.step S0 sm
  have S1 := S0.same sm
  have sl1 := sl0.step st1
  have rs := rs0.step st1
  have hT : SqT X.K (upd H0 p (.tup us)) p us := .inl (.inl upd_same)
  replace q1 := PQ.step q1 st1
  generalize upd H0 p (.tup us) = H1 at *
  have lim : us.length ≤ sizeLine := by rw [rs0.length, ln]; exact Nat.le_trans hl (by decide)
  have hlen := rs.length
  have I0 : LcInv (CvX X T) P H1 α1 μ1 0 [] (upd H1 P (.lst [])) α1 μ1 [] :=
    ⟨stor_hide S1 nP, ext_hide S1 nP, fun _ _ h => h, rfl, (Same.step S1 (same_upd nP)).keep, upd_same, Nat.le_refl _, .nil⟩
  refine ⟨fun n m H2 => m = ws.length - n ∧ n ≤ ws.length ∧ ∃ α2 μ2 acc accD, LcInv (CvX X T) P H1 α1 μ1 n accD H2 α2 μ2 acc ∧ PQ (CvX X T) E Q H1 α1 μ1 (lcW i g (wipeE ρ vs) (ws.drop n) accD μ2),
    ⟨ws.length, rfl, Nat.zero_le _, α1, μ1, [], [], I0, q1⟩, ?_⟩
  rintro n m H2 ⟨rfl, hi, α2, μ2, acc, accD, I2, q2⟩
  have hT2 : SqT X.K H2 p us := I2.ext.sqT hT
  by_cases hlt : n < ws.length
  · obtain ⟨w, hd⟩ : ∃ w, ws[n]? = some w := ⟨ws[n], List.getElem?_eq_getElem hlt⟩
    have ed : ws.drop n = w :: ws.drop (n + 1) := by
      rw [List.drop_eq_getElem_cons hlt]
      congr 1
      rw [List.getElem?_eq_getElem hlt] at hd
      exact Option.some.inj hd
    rw [ed] at q2
    obtain ⟨v, hv, rv⟩ := rs.get hd
    refine .inr ⟨⟨us, v, hT2, hv⟩, fun H3 => n + 1 ≤ ws.length ∧ ∃ α2 μ2 acc accD, LcInv (CvX X T) P H1 α1 μ1 (n + 1) accD H3 α2 μ2 acc ∧ PQ (CvX X T) E Q H1 α1 μ1 (lcW i g (wipeE ρ vs) (ws.drop (n + 1)) accD μ2), fun H3 n => ⟨_, by omega, rfl, n⟩, fun x H3 yy => ?_⟩
    obtain ⟨rfl, yy⟩ := yy
    have ex := yy us hT2
    rw [hv] at ex
    cases ex
    have sl3 : Sl (CvX X T) H3 (α2.hide P) μ2 (L2.wipe σ vs) (wipeE ρ vs) := by
      have z := sl1.wipe vs
      refine ⟨z.len, fun i w h => ?_⟩
      obtain ⟨v, h1, h2⟩ := z.at_ i w h
      exact ⟨v, h1, rpw_inv I2 h2⟩
    have sl4 := sl3.set (rpw_inv I2 rv) i
    refine ⟨wipe_set hw, ?_⟩
    dsimp only [tYes]
    rw [if_pos rfl]
    unfold lcW at q2
    refine ⟨(wipeE ρ vs).set i (some w), α2.hide P, μ2, I2.stor, sl4, ?_⟩
    split at q2
    · rename_i z μ6 eg
      rw [eg]
      intro v6 H6 α6 st6 S6 r6
      obtain ⟨α7, e7, I7⟩ := I2.go st6 S6
      subst e7
      exact ⟨acc, I7.list, Nat.lt_of_le_of_lt I7.len (Nat.lt_of_lt_of_le hlt (by rw [← hlen]; exact lim)), hlt, α7, μ6, _, _, I7.put nP S1 r6, q2⟩
    · exact q2.elim
  · have e0 : ws.drop n = [] := List.drop_eq_nil_of_le (by omega)
    rw [e0] at q2
    refine .inl ⟨⟨us, hT2, by omega⟩, q2 _ H2 α2 I2.st (stor_unhide I2.stor) (.lst (.inl I2.list) (fun z => ?_) (I2.rep.ext ext_unhide))⟩
    have hn := (nodup_hide I2.stor).1
    rcases z with ⟨k, c, h1, h2⟩ | z
    · exact hn (List.mem_append_left _ (List.mem_of_getElem? h1))
    · exact hn (List.mem_append_right _ z)
theorem de_lcW {i : Nat} {x : Str} {p p2 : Pos} {kk : Nat} {elt : Expr} {scope : Scope} {own : List (Str × Nat)} (ck : CK X E j) (hr : DA X T E es r) (ok : BlkOk X.N X.env.scope scope own)
    (hg : ∀ (s : Shared) (H : Hp) (D : Addr) (cl : List (Str × Addr)) (fp : List Addr), PG (X.blk s H scope (compEnvC scope cl D X.env) fp) (.Name x p) (gName i))
    (he : ∀ (s : Shared) (H : Hp) (D : Addr) (cl : List (Str × Addr)) (fp : List Addr), CK (X.blk s H scope (compEnvC scope cl D X.env) fp) E0 j → DE (X.blk s H scope (compEnvC scope cl D X.env) fp) T E0 elt g)
    (hw : i ∈ own.map (·.2) := by decide) (hl : es.length ≤ 1000 := by decide) (hs : ∀ x, foldedSetIterable (.Tuple es kk p2) X.env x = pure x := by intro _; rfl) :
    DE X T E (.ListComp elt [⟨.Name x p, .Tuple es kk p2, [], 0⟩] scope pos) (eLcW (own.map (·.2)) i r g) :=
  pe_imp (pe_lc (g := gName i) (tt := tYes) (te := tD (CvX X T) E0 g) ck.calm ck.nd (pi_tup (pe_tup hr.pa)) ok hg (fun s H D cl fp => pts_nil) (fun s H D cl fp => he s H D cl fp (ck.blk s H scope _ fp)) hs) fun σ H Q q => lcW_rd hr hl hw q
theorem de_callV (i : Nat) {x : Str} {p : Pos} {k : Nat} {gs : List (Str × GF)} (ck : CK X E j) (hf : ∀ y g, gs.lookup y = some g → HasFn X.prog X.w X.K X.mg X.base T k y g) (hr : DA X T E (a :: es) r) (hk : k ≤ j := by decide)
    (hN : X.N[i]? = some x := by rfl) (hv : Vis X.env.scope x := by first | exact Or.inl rfl | exact Or.inr (Or.inl rfl) | exact Or.inr (Or.inr rfl)) (hdb : (x == ("__debug__" : Str)) = false := by decide) (hcd : (x == ("__classdict__" : Str)) = false := by decide)
    (he : starEach (a :: es) X.env = (false, eval a X.env) :: starEach es X.env := by rfl) (hpl : (backTo pos (starEach es X.env)).any (·.1) = false := by rfl) : DE X T E (.Call (.Name x p) (a :: es) [] pos) (eCallV i gs r) := by
  refine ⟨fun pins s σ H Q I ⟨ρ, α, μ, S, sl, q⟩ => ?_⟩
  unfold eCallV at q
  split at q
  · rename_i y e
    obtain ⟨v, hs, A, hA, rfl⟩ := sl.at_ i _ e
    split at q
    · rename_i gf eg
      obtain ⟨f, fd, ps, ds, dvs, dd, g0, h1, h2, h3, h4, h5, h6, h7⟩ := (hf y gf eg).ex
      have hA : X.mg y = some (.ref A) := hA
      rw [h1] at hA
      cases hA
      refine (pe_callL h7 (ck.room.mono hk) hN hv h2 h3 h4 ck.passes hr.pa hdb hcd he hpl).run pins s σ H Q I ⟨hs, ?_⟩
      refine hr.read (C := CvX X T) S sl q fun vs ws H1 α1 μ1 st S1 sl1 rs ln q1 => ?_
      rw [h6] at q1
      exact ⟨ws ++ dd.map W.d, α1, μ1, S1, rs.append (RpAll.ws (h5 _ _)), q1⟩
    · exact (show False from q).elim
  · exact (show False from q).elim
theorem truV_of {C : Cv} {H : Hp} {M : Addr → Prop} {v : V} {d : PyData} {k : Bool} (r : RpT C.K H M v d) (e : truD d = some k) : TruV C.K v H k := by
  unfold truD at e
  split at e
  · cases e; rw [r.none]; exact (rfl : false = false)
  · cases e; rw [r.bl]; exact (rfl : k = k)
  · cases e; rw [r.int]; exact rfl
  · split at e
    · rename_i hl
      cases e; rw [r.str]; exact ⟨lim_line hl, rfl⟩
    · cases e
  · cases e
    obtain ⟨a, xs, rfl, h, rr⟩ := r.list
    refine .inl ⟨xs, .inl h, ?_⟩
    cases rr <;> rfl
  · cases e
    obtain ⟨a, xs, rfl, h, rr⟩ := r.tuple
    refine .inr (.inl ⟨xs, h, ?_⟩)
    cases rr <;> rfl
  · cases e
theorem de_notT (ha : DE X T E a f) : DE X T E (.UnaryOp .Not a pos) (eNotT f) :=
  pe_imp (pe_notT ha) fun σ H Q ⟨ρ, α, μ, S, sl, q⟩ => tD_bind S sl q fun v w H1 α1 μ1 st S1 sl1 r1 q1 => by
    obtain ⟨z, e, q2⟩ := PQ.ofO q1
    cases e1 : Mi.view μ1 w with
    | none => rw [e1] at e; cases e
    | some d =>
      rw [e1] at e
      cases e2 : truD d with
      | none => simp [e2] at e
      | some k =>
        simp [e2] at e
        subst e
        exact ⟨k, truV_of (r1.view S1 e1) e2, q2 _ H1 α1 (.refl _ _ _) S1 (.bl _)⟩
theorem de_fnx {x : Str} {st : Stmt} {ps : List Str} (d : DefFact X.K X.mg x st ps) (hg : Gl X x := by rfl) (hd : (x == ("__debug__" : Str)) = false := by decide) : DE X T E (.Name x pos) (eFn x) := by
  obtain ⟨f, fd, dvs, kws, Fu, hm, hb⟩ := d.ex
  exact de_fn hm hg hd
theorem de_catM {b : Expr} (ha : DE X T E a f) (hb : DE X T E b g) : DE X T E (.BinOp a .Add b pos) (eCatM f g) :=
  pe_imp (pe_op op_catR ha hb) fun σ H Q ⟨ρ, α, μ, S, sl, q⟩ => tD_bind S sl q fun v w H1 α1 μ1 st1 S1 sl1 r1 q1 => tD_bind S1 sl1 q1 fun u w2 H2 α2 μ2 st2 S2 sl2 r2 q2 => by
    have r1 := r1.step st2
    split at q2
    · rename_i x y e1 e2
      split at q2
      · rename_i hl
        obtain ⟨p1, xs, rfl, h1, s1⟩ := (r1.view S2 e1).list
        obtain ⟨p2, ys, rfl, h2, s2⟩ := (r2.view S2 e2).list
        refine ⟨p1, p2, xs, ys, rfl, rfl, h1, h2, by rw [s1.length, s2.length]; exact lim_line hl, fun p np => ?_⟩
        exact q2 _ _ _ (step_push S2 np) (stor_push S2 np (s1.append s2)) ⟨p, by show (α2.own ++ [p])[_]? = _; rw [← S2.len]; simp, rfl⟩
      · exact (show False from q2).elim
    · exact (show False from q2).elim
/-- ahead of a statement: a list that is not changed any more -/
theorem ds_frz (i : Nat) {st : Stmt} {F : SF} (h : DS X T E st F) : DS X T E st (sSeq (sFrz i) F) :=
  ps_imp h fun D σ H ⟨ρ, α, μ, S, sl, q⟩ => by
    unfold sSeq sFrz at q
    split at q
    · rename_i ρ1 μ1 e
      split at e
      · rename_i k ek
        split at e
        · rename_i l el
          cases e
          obtain ⟨v, h1, a, ha, rfl⟩ := sl.at_ i _ ek
          obtain ⟨st2, S2, r2⟩ := own_give S (mlist_at el) ha
          have z := (sl.step st2).set (w := .d (.list l)) r2 i
          have es : σ.set i (some (.ref a)) = σ := by
            refine List.ext_getElem? fun j => ?_
            by_cases hj : i = j
            · subst hj
              rw [List.getElem?_set_self (List.getElem?_eq_some_iff.mp h1).1, h1]
            · rw [List.getElem?_set_ne hj]
          rw [es] at z
          exact ⟨_, _, _, S2, z, QS.step q st2⟩
        · cases e
      · cases e
    · rename_i hne
      split at q
      · rename_i k ek
        split at q
        · rename_i l el
          exact absurd (by rw [ek]; dsimp only; rw [el]) (hne _ _)
        · exact (show False from q).elim
      · exact (show False from q).elim
/-- defs that a name may hold -/
theorem held_nil {P : Program} {w : World} {K : PySem.W.Frag} {mg : Str → Option Value} {base : Heap} {k : Nat} : ∀ (y : Str) (g : GF), ([] : List (Str × GF)).lookup y = some g → HasFn P w K mg base T k y g := fun y g e => by cases e
theorem held_cons {P : Program} {w : World} {K : PySem.W.Frag} {mg : Str → Option Value} {base : Heap} {k : Nat} {x : Str} {g0 : GF} {gs : List (Str × GF)} (h : HasFn P w K mg base T k x g0) (r : ∀ (y : Str) (g : GF), gs.lookup y = some g → HasFn P w K mg base T k y g) :
    ∀ (y : Str) (g : GF), ((x, g0) :: gs).lookup y = some g → HasFn P w K mg base T k y g := fun y g e => by
  rw [List.lookup_cons] at e
  split at e
  · rename_i hb
    cases e
    have : y = x := by simpa using hb
    subst this
    exact h
  · exact r y g e
end
end L3

set_option Elab.async false
set_option linter.all false
set_option maxRecDepth 100000
set_option maxHeartbeats 2000000
/-! t[::-1] of a tuple. -/
namespace L3
open PySem PySem.Spec PyProof.Rows L2 Mi HT
section
variable {prog : Program} {w : World} {A : Around} {E : Value → Shared → Prop} {s : Shared}
theorem sliceApplied_rev {sl : Addr} {vs : Value} {n : Nat} {Q : Int × Int × Nat → Shared → Prop} (hs : s.heap.IsSliceOf sl .none .none vs) (ps : IsPart vs (some (-1)))
    (h : Q ((n : Int) - 1, -1, n) s) : wpAny (model prog w) A (Builtin.Slice.sliceApplied (.ref sl) (pure (n : Int))) Q E s := by
  obtain ⟨os, hos, hcs, hds⟩ := id hs
  unfold Builtin.Slice.sliceApplied Builtin.Slice.sliceFields
  refine wpAny_bind (wpAny_bind (wpAny_field hos hds (x := .none) rfl (wpAny_bind (wpAny_field hos hds (x := .none) rfl (wpAny_bind (wpAny_field hos hds (x := vs) rfl (wpAny_pure ?_)))))))
  refine wpAny_bind (slicePart_ ps ?_)
  show wpAny _ _ (if ((-1 : Int) == 0) = true then _ else _) _ _ s
  rw [if_neg (by decide)]
  refine wpAny_bind (slicePart_none (wpAny_bind (slicePart_none (wpAny_bind (wpAny_pure ?_)))))
  have e1 : Builtin.Slice.sliceAdjust none none (-1) (n : Int) = ((n : Int) - 1, -1) := by
    simp [Builtin.Slice.sliceAdjust]
  show wpAny _ _ (match Builtin.Slice.sliceAdjust none none (-1) (n : Int) with | (lo, hi) => pure (lo, (-1 : Int), Builtin.Slice.slicePlaces lo hi (-1))) _ _ s
  rw [e1]
  have e2 : Builtin.Slice.slicePlaces ((n : Int) - 1) (-1) (-1) = n := by
    unfold Builtin.Slice.slicePlaces
    have h1 : ¬ ((-1 : Int) > 0) := by decide
    rw [if_neg h1]
    split
    · rw [show (- -1 : Int) = 1 by decide, Int.ediv_one]
      omega
    · omega
  show wpAny _ _ (pure ((n : Int) - 1, (-1 : Int), Builtin.Slice.slicePlaces ((n : Int) - 1) (-1) (-1))) _ _ s
  rw [e2]
  exact wpAny_pure h
theorem fm_congr {α β : Type} {f g : α → Option β} : ∀ {l : List α}, (∀ x ∈ l, f x = g x) → l.filterMap f = l.filterMap g
  | [], _ => rfl
  | a :: l, h => by rw [List.filterMap_cons, List.filterMap_cons, h a List.mem_cons_self, fm_congr fun x hx => h x (List.mem_cons_of_mem _ hx)]
theorem pick_rev (xs : Array Value) : ((List.range xs.size).filterMap fun (m : Nat) => xs[((xs.size : Int) - 1 + (m : Int) * (-1)).toNat]?).toArray = xs.toList.reverse.toArray := by
  congr 1
  have e : (List.range xs.size).filterMap (fun (m : Nat) => xs[((xs.size : Int) - 1 + (m : Int) * (-1)).toNat]?) = ((List.range xs.size).map fun k => xs.size - 1 - k).filterMap (xs[·]?) := by
    rw [List.filterMap_map]
    refine fm_congr fun m hm => ?_
    have := List.mem_range.mp hm
    show xs[((xs.size : Int) - 1 + (m : Int) * (-1)).toNat]? = xs[xs.size - 1 - m]?
    congr 1
    omega
  rw [e, PySem.W.krv_range, List.filterMap_reverse, PySem.W.krv_all]
theorem getItem_tuple_rev {t sl : Addr} {items : Array Value} {vs : Value} {Q : Value → Shared → Prop} (ht : IsTup s.heap t items) (hs : s.heap.IsSliceOf sl .none .none vs) (ps : IsPart vs (some (-1)))
    (h : Q (.ref s.heap.objs.size) { s with heap := s.heap.push { cls := .type "tuple", data := .seq items.toList.reverse.toArray } })
    (hsz : items.size ≤ sizeLine) : wpAny (model prog w) A (getItem (.ref t) (.ref sl)) Q E s := by
  have htake : sizeOk (.seq items.toList.reverse.toArray) := by
    show items.toList.reverse.toArray.size ≤ sizeLine
    rw [List.size_toArray, List.length_reverse, Array.length_toList]
    exact hsz
  obtain ⟨os, hos, hcs, hds⟩ := id hs
  have hTs : s.TypeIs (.ref sl) "slice" := ⟨os, hos, hcs⟩
  unfold getItem
  try with_reducible refine wpAny_holding ?_
  first | refine wpAny_bind (wpAny_pure ?_) | skip
  refine wpAny_bind (wpAny_sequenceKey ht.typeIs (by decide) ?_)
  refine wpAny_bind (wpAny_callSpecial?_slot (name := Str.ofString "__getitem__") ht.typeIs PyProof.Rows.slot_tuple_getitem
    (wpAny_call_entry PyProof.Rows.slot_tuple_getitem ht.typeIs entry_tuple_getitem ?_ (args_tuple_getitem _ _)))
  show wpAny _ _ (Builtin.Tuple.tupleItemsOf (.ref t) >>= _) _ _ s
  refine wpAny_bind (tupleItemsOf_ ht ?_)
  refine wpAny_bind (wpAny_typeOf hTs ?_)
  rw [if_pos (by decide)]
  refine wpAny_bind (sliceApplied_rev hs ps ?_)
  have hno : ¬ (((items.size : Int) - 1 == 0 && (-1 : Int) == 1 && items.size == items.size) = true) := by
    rw [show ((-1 : Int) == 1) = false from rfl]
    simp
  show wpAny _ _ (if ((items.size : Int) - 1 == 0 && (-1 : Int) == 1 && items.size == items.size) = true then _ else _) _ _ s
  rw [if_neg hno, pick_rev]
  first
    | exact wpAny_bind (m := Builtin.Tuple.tupleExact _) (wpAny_newObj_type (wpAny_pure ⟨_, rfl, wpAny_pure h⟩) htake)
    | exact wpAny_bind (m := Builtin.Tuple.tupleExact _) (wpAny_newObj_type (wpAny_bind (wpAny_pure (wpAny_pure ⟨_, rfl, wpAny_pure h⟩))) htake)
    | exact wpAny_bind (wpAny_bind (m := Builtin.Tuple.tupleExact _) (wpAny_newObj_type (wpAny_pure (wpAny_pure ⟨_, rfl, wpAny_pure h⟩)) htake))
    | exact wpAny_bind (wpAny_bind (m := Builtin.Tuple.tupleExact _) (wpAny_newObj_type (wpAny_pure ⟨_, rfl, wpAny_pure h⟩) htake))
end
/-- xs[::-1] of a list or a tuple -/
def tRevA (K : PySem.W.Frag) (te : TE) : TE := fun σ H Q => te σ H fun x H1 => (∃ a xs, x = .ref a ∧ SqL K H1 a xs ∧ ∀ p, H1 p = none → Q (.ref p) (upd H1 p (.lst xs.reverse))) ∨
  (∃ a xs, x = .ref a ∧ SqT K H1 a xs ∧ ∀ p, H1 p = none → Q (.ref p) (upd H1 p (.tup xs.reverse)))
section
variable {X : Cx} {T : List (Addr × Str)} {E : XK} {j : Nat} {a : Expr} {f : EF}
theorem pe_revA {e : Expr} {te : TE} {k : Nat} {p1 p2 p3 pos : Pos} (he : PE X e te) : PE X (.Subscript e (.Slice none none (some (.UnaryOp .USub (.Constant (.int 1) k p1) p2)) p3) pos) (tRevA X.K te) := by
  refine ⟨fun pins s σ H Q I h => ?_⟩
  refine Subscript_ (thn (he.run pins s σ H _ I h) fun v s1 ⟨x, H1, I1, r1, q1⟩ => ?_)
  have hst : PO X (some (.UnaryOp .USub (.Constant (.int 1) k p1) p2)) (tPart (tUn (rU fun i => .int (-i)) (tC (.int 1)))) := po_some (pe_un un_neg pe_int)
  refine wpAny_Slice (thn (po_none.run pins s1 σ H1 (fun o H2 => o = none ∧ H2 = H1) I1 ⟨rfl, rfl⟩) fun vl s2 ⟨l, H2, I2, pl, el, e2⟩ => ?_)
  subst el e2
  refine thn (po_none.run pins s2 σ H2 (fun o H3 => o = none ∧ H3 = H2) I2 ⟨rfl, rfl⟩) fun vu s3 ⟨u, H3, I3, pu, eu, e3⟩ => ?_
  subst eu e3
  refine thn (hst.run pins s3 σ H3 (fun o H4 => o = some (-1) ∧ H4 = H3) I3 ⟨1, rfl, -1, rfl, rfl, rfl⟩) fun vs s4 ⟨o, H4, I4, ps, eo, e4⟩ => ?_
  subst eo e4
  have I5 : Inv X pins σ H4 { s4 with heap := s4.heap.push { cls := .type "slice", data := .fields #[vl, vu, vs] } } := I4.kept (t' := s4.toks) fun b ob q => Heap.get?_push_of_some _ q
  rcases q1 with ⟨a, xs, ex, hx, q⟩ | ⟨a, xs, ex, hx, q⟩
  · subst ex
    cases r1
    obtain ⟨its, r, ht, hz⟩ := I5.list hx
    have hlen := r.length
    show wpAny (model X.prog X.w) X.A (subscriptTail e (.Slice none none (some (.UnaryOp .USub (.Constant (.int 1) k p1) p2)) p3) (.ref a) (.ref s4.heap.objs.size)) (EP X pins σ Q) X.xe { s4 with heap := s4.heap.push { cls := .type "slice", data := .fields #[vl, vu, vs] } }
    refine tail_any (ops := [.ref a, .ref s4.heap.objs.size]) ht.isList.typeIs (PySem.slot_list_getitem.lookup) ?_ (by with_unfolding_all rfl)
    refine wpAny_getItem_list_slice ht.isList (Heap.IsSliceOf.new _ vl vu vs) pl pu ps (by decide) ?_ (by rw [List.size_toArray]; omega)
    rw [PySem.W.krv_pick]
    refine ⟨.ref _, _, I5.laid (t' := s4.toks) (o := .lst xs.reverse) (fun b ob q => Heap.get?_push_of_some _ q) (Nat.le_refl _) ?_, rfl, q _ (I5.hok.fresh (Nat.le_refl _))⟩
    exact ⟨by rw [List.length_reverse]; exact hz, _, 0, r.reverse, Heap.get?_push_size _ rfl⟩
  · subst ex
    cases r1
    cases pl
    cases pu
    obtain ⟨its, r, ht, hz⟩ := I5.tuple hx
    have hlen : its.toArray.size = xs.length := by rw [List.size_toArray]; exact r.length.symm
    show wpAny (model X.prog X.w) X.A (subscriptTail e (.Slice none none (some (.UnaryOp .USub (.Constant (.int 1) k p1) p2)) p3) (.ref a) (.ref s4.heap.objs.size)) (EP X pins σ Q) X.xe { s4 with heap := s4.heap.push { cls := .type "slice", data := .fields #[.none, .none, vs] } }
    refine tail_any (ops := [.ref a, .ref s4.heap.objs.size]) ht.typeIs PyProof.Rows.slot_tuple_getitem.lookup ?_ (by with_unfolding_all rfl)
    refine getItem_tuple_rev ht (Heap.IsSliceOf.new _ .none .none vs) ps ?_ (by rw [hlen]; exact hz)
    refine ⟨.ref _, _, I5.laid (t' := s4.toks) (o := .tup xs.reverse) (fun b ob q => Heap.get?_push_of_some _ q) (Nat.le_refl _) ?_, rfl, q _ (I5.hok.fresh (Nat.le_refl _))⟩
    exact ⟨by rw [List.length_reverse]; exact hz, _, r.reverse, IsTup.new _ _⟩
theorem de_revA {j1 : Nat} {p1 p2 p3 pos : Pos} (ha : DE X T E a f) : DE X T E (.Subscript a (.Slice none none (some (.UnaryOp .USub (.Constant (.int 1) j1 p1) p2)) p3) pos) (eUn dRev f) :=
  pe_imp (pe_revA ha) fun σ H Q ⟨ρ, α, μ, S, sl, q⟩ => tD_bind S sl q fun v w H1 α1 μ1 st1 S1 sl1 r1 q1 => by
    obtain ⟨z, e, q2⟩ := PQ.ofO q1
    cases e1 : view μ1 w with
    | none => rw [e1] at e; cases e
    | some d =>
      simp only [e1, Option.bind_some] at e
      cases d with
      | list l =>
        cases e
        obtain ⟨p4, xs, rfl, h4, r4⟩ := (r1.view S1 e1).list
        refine .inl ⟨p4, xs, rfl, .inl h4, fun p np => ?_⟩
        obtain ⟨sm, rp⟩ := rp_newL S1 np r4.reverse
        exact q2 _ _ _ (Same.step S1 sm) (S1.same sm) rp
      | tuple l =>
        cases e
        obtain ⟨p4, xs, rfl, h4, r4⟩ := (r1.view S1 e1).tuple
        refine .inr ⟨p4, xs, rfl, h4, fun p np => ?_⟩
        obtain ⟨sm, rp⟩ := rp_newT np r4.reverse
        exact q2 _ _ _ (Same.step S1 sm) (S1.same sm) rp
      | none => cases e
      | bool b => cases e
      | int b => cases e
      | str b => cases e
      | dict b => cases e
end
end L3

set_option Elab.async false
set_option linter.all false
set_option maxRecDepth 100000
set_option maxHeartbeats 2000000
/-! From the head's facts to the layer's. -/
namespace L3
open PySem PySem.Spec PyProof.Rows L2 Mi He
section
variable {K : PySem.W.Frag} {mg : Str → Option Value} {h : Heap}
def excCB (K : PySem.W.Frag) (D : Addr) : Bool :=
  eqO (PySem.W.findIn K (.ref D) "__getattribute__") (some (some (.builtin "BaseException.__getattribute__"))) && (eqO (PySem.W.findIn K (.ref D) "__getattr__") (some none) && (decide (PySem.W.subIn K (.ref D) (.type "BaseException") = some true) &&
    (PySem.W.hasDictIn K D && (eqO (PySem.W.findIn K (.ref D) "__class__") (some (some (.builtin "object.__class__"))) && (eqO (PySem.W.specialIn K (.builtin "object.__class__") "__get__") (some (some (.builtin "getset_descriptor.__get__"))) &&
      (decide (PySem.W.takesIn K (.builtin "object.__class__") = some true) && decide (PySem.W.mroIn K D (.type "object") = some true)))))))
theorem excCB_ok {D : Addr} (h : excCB K D = true) : ExcC K D := by
  unfold excCB at h
  simp only [Bool.and_eq_true, decide_eq_true_eq] at h
  obtain ⟨h1, h2, h3, h4, h5, h6, h7, h8⟩ := h
  exact ⟨eqO_ok h1, eqO_ok h2, h3, h4, eqO_ok h5, eqO_ok h6, h7, h8⟩
/-- the row of the own class x -/
def rowB (K : PySem.W.Frag) (x : Str) : Bool := match ownCls.idxOf? x with
  | none => false
  | some i => excCB K (ga K x) && (decide (PySem.W.exmOne K (.ref (ga K x)) (.ref (ga K "WalkError")) = some true) && (decide (PySem.W.kitOne K (.ref (ga K x)) (.type "ValueError") = some (bOf i 16)) &&
      ((List.range 16).all fun j => decide (PySem.W.kitOne K (.ref (ga K x)) (.ref (ga K (ownCls.getD j ""))) = some (bOf i j)))))
theorem rowB_ok {x : Str} (h : rowB K x = true) (hx : mg x = some (.ref (ga K x))) (hW : mg "WalkError" = some (.ref (ga K "WalkError"))) (hg : ∀ y ∈ ownCls, mg y = some (.ref (ga K y))) : ClsRow K mg x := by
  unfold rowB at h
  split at h
  · cases h
  · rename_i i hi
    simp only [Bool.and_eq_true, decide_eq_true_eq, List.all_eq_true] at h
    obtain ⟨h1, h2, h3, h4⟩ := h
    refine ⟨i, ga K x, ga K "WalkError", hi, hx, hW, h2, excCB_ok h1, fun j y A hj hy => ?_, h3⟩
    have e := hg y (List.mem_of_getElem? hj)
    rw [hy] at e
    cases e
    have hlt : j < 16 := (List.getElem?_eq_some_iff.mp hj).1
    have z := h4 j (List.mem_range.mpr hlt)
    rw [show ownCls.getD j "" = y from by rw [List.getD_eq_getElem?_getD, hj]; rfl] at z
    exact z
theorem rpAll_strsV {H : Hp} {M : Addr → Prop} : ∀ ys : List Str, RpAll K H M ((ys.map Dv.str).map (Dv.v K)) (ys.map PyData.str)
  | [] => .nil
  | y :: ys => .cons (.str y) (rpAll_strsV ys)
theorem gtup_ok {x : Str} {ys : List Str} (h : tupB K x (ys.map Dv.str) = true) (hx : mg x = some (.ref (ga K x))) : GTup K mg x (ys.map PyData.str) :=
  ⟨ga K x, _, hx, fun H M => ⟨tupB_ok h H, rpAll_strsV ys⟩⟩
theorem ownEx_ok {x : Str} (c : (Fa.exc x).ok K = true) (hx : mg x = some (.ref (ga K x))) : OwnEx K mg x := by
  obtain ⟨h1, h2, h3, h4⟩ := exc_ok c
  exact ⟨ga K x, hx, h2, h1, h3, h4⟩
/-- no list stands among what is written -/
def noLists (K : PySem.W.Frag) : Bool := K.all fun p => !decide (p.2.cls = .type "list")
theorem noLists_rd (n : noLists K = true) {H : Hp} {a : Addr} {xs : List V} (h : SqL K H a xs) : Rd H a (.lst xs) := by
  rcases h with h | ⟨o, its, m, lk, hc, _⟩
  · exact h
  · have z := List.all_eq_true.mp n (a, o) (He.lookup_mem lk)
    simp [hc] at z
theorem rpAll_intsV {H : Hp} {M : Addr → Prop} (ns : List Int) : RpAll K H M (ns.map V.int) (ns.map PyData.int) := rpAll_ints ns
/-- what a law's statement asks, from the walk of its def and its plain law -/
theorem law_at {l : PySem.W.OpenLaw} {w : World} {fa : Addr} {n k : Nat} {st : Stmt} {g : GF} {fs : List Fa} {fn : List DefD} {ts : List Tab} {ex : PySem.W.Frag → Bool} {fd : FuncData} {kws : List (Str × V)} (X : K.In h) (G : h.Ns mainGlobals mg)
    (c : SaysX fs fn ts [("law", none)] ex w h K) (hm : mg "law" = some (.ref (ga K "law"))) (hfa : mg "law" = some (.ref fa)) (Fu : FunD K "law" "law" (defArgs st) (defBody st) (defScope st) [] kws (ga K "law") fd)
    (hbind : ∀ (kV doc pm : Value) (an : Option Addr) (cdv ct : Value) (us : List Value), us.length = ["script"].length → bindArgs (PySem.W.fnOf "law" "law" (defArgs st) (defBody st) (defScope st) .none kV doc pm an cdv ct) ⟨us, []⟩ = pure ((["script"] : List Str).zip us)) (hn : noLists K = true)
    (Fn : ∀ (base : Heap) (T : List (Addr × Str)), DefL K mg base T "law" st ["script"] fa fd → FnOk l.prog w K mg base (L2N.CX l.prog w) k fa fd ["script"] (spD ⟨K, mg, T⟩ g))
    (pure : ∀ ns : List Int, ns.length ≤ n → (∀ z ∈ ns, Builtin.Int.intBits z ≤ 1048576) → g [.d (.list (ns.map .int))] [] = .ok (.d (.bool true)) []) : LamX.LawAtS l w K (L2N.CX l.prog w) k n "script" mg fa h := by
  have e := hm.symm.trans hfa
  injection e with e
  injection e with e
  subst e
  have hb : Binds K fd ["script"] [] := Fu.bindsN hbind
  have hA := Fu.bindsA (ps := ["script"]) hbind
  obtain ⟨oc, od, dV, kV, doc, pm, an, cdv, ct, osl, rfl, lk, hcdi, _, _⟩ := Fu.ex
  obtain ⟨cc, rfl⟩ := codeIn_ref hcdi
  have hcc : codeOf K ("law", none) = cc := codeOf_eq (p := ("law", none)) lk rfl
  have mem : (("law", none) : Defn) ∈ ([("law", none)] : List Defn) := List.mem_singleton.mpr rfl
  refine ⟨_, [cT K ("law", none)], spD ⟨K, mg, [((cT K ("law", none)).2, qLam "law")]⟩ g, fun p hp => ?_, fun p hp => ?_, fun p hp => ?_, fun s u => hA s [u] rfl, fun H a ns hl hbits hT hS => ?_, fun base KB NB TB => ?_⟩
  · obtain rfl := List.mem_singleton.mp hp; exact c.empty _ mem
  · obtain rfl := List.mem_singleton.mp hp; exact c.out _ mem
  · obtain rfl := List.mem_singleton.mp hp; exact PySem.W.codeHd_of_K X (c.hd _ mem)
  · have no : ∀ b, ¬ Own ⟨[], []⟩ [] b := fun b z => by
      rcases z with ⟨k, c, h1, _⟩ | z
      · cases h1
      · cases z
    refine ⟨[.d (.list (ns.map .int))], ⟨[], []⟩, [], ⟨rfl, List.Pairwise.nil, (fun b hb => by cases hb), (fun k c e => by cases e), fun p hp => ?_⟩, .cons (.lst (noLists_rd hn hS) (no a) (rpAll_ints ns)) .nil, ?_⟩
    · obtain rfl := List.mem_singleton.mp hp
      exact LamX.TabS.nil (hT _ (List.mem_singleton.mpr rfl))
    · rw [pure ns hl hbits]
      intro v H' α' st S r
      cases r
      rfl
  · refine Fn base _ ⟨⟨_, _, Fu⟩, hm, hb, cc, (cT K ("law", none)).2, rfl, ?_, List.mem_singleton.mpr rfl, fun p hp _ => ?_⟩
    · have z := TB _ (List.mem_singleton.mpr rfl)
      rw [show (cT K ("law", none)).1 = cc from hcc] at z
      exact z
    · obtain rfl := List.mem_singleton.mp hp
      rfl
/-- the lambdas of the def x -/
def LamC (K : PySem.W.Frag) (mg : Str → Option Value) (base : Heap) (T : List (Addr × Str)) (x : Str) : Prop := ∃ P, LamX.TabB base mg (codeOf K (x, none)) P ∧ (P, qLam x) ∈ T ∧ ∀ p ∈ T, p.1 = P → p.2 = qLam x
theorem LamC.defL {base : Heap} {T : List (Addr × Str)} {x : Str} {st : Stmt} {ps : List Str} {fd : FuncData} {dvs : List V} {kws : List (Str × V)} (L : LamC K mg base T x) (hm : mg x = some (.ref (ga K x))) (Fu : FunD K x x (defArgs st) (defBody st) (defScope st) dvs kws (ga K x) fd) (hb : Binds K fd ps []) : DefL K mg base T x st ps (ga K x) fd := by
  obtain ⟨P, TB, hT, hu⟩ := L
  obtain ⟨oc, od, dV, kV, doc, pm, an, cdv, ct, osl, rfl, lk, hcdi, _, _⟩ := Fu.ex
  obtain ⟨cc, rfl⟩ := codeIn_ref hcdi
  have hcc : codeOf K (x, none) = cc := codeOf_eq (p := (x, none)) lk rfl
  exact ⟨⟨dvs, kws, Fu⟩, hm, hb, cc, P, rfl, by rw [← hcc]; exact TB, hT, hu⟩
def tabsOf (K : PySem.W.Frag) (ds : List Str) : List (Addr × Str) := ds.map fun x => ((cT K (x, none)).2, qLam x)
/-- the tables of the lambdas are apart -/
def apartB (K : PySem.W.Frag) (ds : List Str) : Bool := (tabsOf K ds).all fun p => (tabsOf K ds).all fun q => !(p.1 == q.1) || p.2 == q.2
theorem lamC_of {base : Heap} {ds : List Str} {x : Str} (hx : x ∈ ds) (ha : apartB K ds = true) (TB : LamX.TabB base mg (codeOf K (x, none)) (cT K (x, none)).2) : LamC K mg base (tabsOf K ds) x := by
  have hm : ((cT K (x, none)).2, qLam x) ∈ tabsOf K ds := List.mem_map.mpr ⟨x, hx, rfl⟩
  refine ⟨_, TB, hm, fun p hp e => ?_⟩
  have z := List.all_eq_true.mp (List.all_eq_true.mp ha p hp) _ hm
  rcases Bool.or_eq_true _ _ ▸ z with z | z
  · rw [e] at z
    simp at z
  · exact eq_of_beq z
/-- what a law's statement asks, from the walk of its def and its plain law; ds: the defs with lambdas -/
theorem law_atL {l : PySem.W.OpenLaw} {w : World} {fa : Addr} {n k : Nat} {st : Stmt} {g : GF} {fs : List Fa} {fn : List DefD} {ts : List Tab} {ds : List Str} {ex : PySem.W.Frag → Bool} {fd : FuncData} {kws : List (Str × V)} (X : K.In h) (G : h.Ns mainGlobals mg)
    (c : SaysX fs fn ts (ds.map fun x => (x, none)) ex w h K) (hm : mg "law" = some (.ref (ga K "law"))) (hfa : mg "law" = some (.ref fa)) (Fu : FunD K "law" "law" (defArgs st) (defBody st) (defScope st) [] kws (ga K "law") fd)
    (hbind : ∀ (kV doc pm : Value) (an : Option Addr) (cdv ct : Value) (us : List Value), us.length = ["script"].length → bindArgs (PySem.W.fnOf "law" "law" (defArgs st) (defBody st) (defScope st) .none kV doc pm an cdv ct) ⟨us, []⟩ = pure ((["script"] : List Str).zip us)) (hn : noLists K = true) (ha : apartB K ds = true)
    (Fn : ∀ (base : Heap), (∀ x ∈ ds, LamC K mg base (tabsOf K ds) x) → Binds K fd ["script"] [] → FnOk l.prog w K mg base (L2N.CX l.prog w) k fa fd ["script"] (spD ⟨K, mg, tabsOf K ds⟩ g))
    (pure : ∀ ns : List Int, ns.length ≤ n → (∀ z ∈ ns, Builtin.Int.intBits z ≤ 1048576) → g [.d (.list (ns.map .int))] [] = .ok (.d (.bool true)) []) : LamX.LawAtS l w K (L2N.CX l.prog w) k n "script" mg fa h := by
  have e := hm.symm.trans hfa
  injection e with e
  injection e with e
  subst e
  have hb : Binds K fd ["script"] [] := Fu.bindsN hbind
  have hA := Fu.bindsA (ps := ["script"]) hbind
  have mem : ∀ p ∈ ds.map (fun x => cT K (x, none)), ∃ x ∈ ds, cT K (x, none) = p ∧ ((x, none) : Defn) ∈ (ds.map fun x => ((x, none) : Defn)) := fun p hp => by
    obtain ⟨x, hx, e⟩ := List.mem_map.mp hp
    exact ⟨x, hx, e, List.mem_map.mpr ⟨x, hx, rfl⟩⟩
  refine ⟨_, ds.map (fun x => cT K (x, none)), spD ⟨K, mg, tabsOf K ds⟩ g, fun p hp => ?_, fun p hp => ?_, fun p hp => ?_, fun s u => hA s [u] rfl, fun H a ns hl hbits hT hS => ?_, fun base KB NB TB => ?_⟩
  · obtain ⟨x, hx, rfl, hm⟩ := mem p hp; exact c.empty _ hm
  · obtain ⟨x, hx, rfl, hm⟩ := mem p hp; exact c.out _ hm
  · obtain ⟨x, hx, rfl, hm⟩ := mem p hp; exact PySem.W.codeHd_of_K X (c.hd _ hm)
  · have no : ∀ b, ¬ Own ⟨[], []⟩ [] b := fun b z => by
      rcases z with ⟨k, c, h1, _⟩ | z
      · cases h1
      · cases z
    refine ⟨[.d (.list (ns.map .int))], ⟨[], []⟩, [], ⟨rfl, List.Pairwise.nil, (fun b hb => by cases hb), (fun k c e => by cases e), fun p hp => ?_⟩, .cons (.lst (noLists_rd hn hS) (no a) (rpAll_ints ns)) .nil, ?_⟩
    · obtain ⟨x, hx, rfl⟩ := List.mem_map.mp (show p ∈ tabsOf K ds from hp)
      exact LamX.TabS.nil (hT _ (List.mem_map.mpr ⟨x, hx, rfl⟩))
    · rw [pure ns hl hbits]
      intro v H' α' st S r
      cases r
      rfl
  · exact Fn base (fun x hx => lamC_of hx ha (TB _ (List.mem_map.mpr ⟨x, hx, rfl⟩))) hb
end
end L3

set_option linter.all false
set_option Elab.async false
/-! The mirrors of the defs (printed by gen.py). -/
namespace Mir
open PySem Mi
/-- the own classes that are raised -/
def clsL : List Str := ["InvalidChange", "InvalidStatement", "InvalidWorth"]
/-- is_whole: 0 value, 1 low, 2 high -/
def F_is_whole : SF :=
    (sRet (eAnd (eIsi .int (eVar 0)) (eAnd (eNot (eIsi .bool (eVar 0))) (eChain dLe dLe (eVar 1) (eVar 0) (eVar 2)))))
def g_is_whole : GF := fnOf 3 3 F_is_whole
/-- is_end: 0 value -/
def F_is_end : SF :=
    (sRet (eOr (eIsN (eVar 0)) (eCall g_is_whole (aCons (eVar 0) (aCons (eUn dNeg (eInt (1000000000000000000000000000000))) (aCons (eInt (1000000000000000000000000000000)) aNil))))))
def g_is_end : GF := fnOf 1 1 F_is_end
/-- are_ends: 0 low, 1 high -/
def F_are_ends : SF :=
    (sRet (eAnd (eCall g_is_end (aCons (eVar 0) aNil)) (eAnd (eCall g_is_end (aCons (eVar 1) aNil)) (eOr (eIsN (eVar 0)) (eOr (eIsN (eVar 1)) (eOp dLe (eVar 0) (eVar 1)))))))
def g_are_ends : GF := fnOf 2 2 F_are_ends
/-- is_piece: 0 value -/
def F_is_piece : SF :=
    (sSeq (sIf (eOr (eNot (eIsi .tuple (eVar 0))) (eOr (eOp dNe (eBlt bLen (aCons (eVar 0) aNil)) (eInt 4)) (eNot (eCall g_are_ends (aCons (eOp dIx (eVar 0) (eInt 0)) (aCons (eOp dIx (eVar 0) (eInt 1)) aNil)))))) (sRet (eBl false)) sNil)
    (sSeq (sIf (eOr (eNot (eIsi .str (eOp dIx (eVar 0) (eInt 2)))) (eNot (eCall g_is_whole (aCons (eOp dIx (eVar 0) (eInt 3)) (aCons (eUn dNeg (eInt (1000000000000000000000000000000))) (aCons (eInt (1000000000000000000000000000000)) aNil)))))) (sRet (eBl false)) sNil)
    (sRet (eOr (eOp dEq (eOp dIx (eVar 0) (eInt 2)) (eStr "set")) (eAnd (eOp dEq (eOp dIx (eVar 0) (eInt 2)) (eStr "add")) (eOp dNe (eOp dIx (eVar 0) (eInt 3)) (eInt 0)))))))
def g_is_piece : GF := fnOf 1 1 F_is_piece
/-- are_apart: 0 one, 1 other -/
def F_are_apart : SF :=
    (sRet (eAnd (eNotN (eOp dIx (eVar 0) (eInt 1))) (eAnd (eNotN (eOp dIx (eVar 1) (eInt 0))) (eOp dLt (eOp dIx (eVar 0) (eInt 1)) (eOp dIx (eVar 1) (eInt 0))))))
def g_are_apart : GF := fnOf 2 2 F_are_apart
/-- fits_change: 0 value, 1 at, 2 piece -/
def F_fits_change : SF :=
    (sSeq (sIf (eOr (eNot (eIsi .tuple (eVar 0))) (eOr (eNot (eChain dLe dLe (eInt 1) (eBlt bLen (aCons (eVar 0) aNil)) (eInt 4))) (eNot (eBlt bAll (aCons (eLc [2] (tName 2) (iSeq (eVar 0)) eYes (eCall g_is_piece (aCons (eVar 2) aNil))) aNil))))) (sRet (eBl false)) sNil)
    (sRet (eBlt bAll (aCons (eLc [1] (tName 1) (iRange1 (eOp dSub (eBlt bLen (aCons (eVar 0) aNil)) (eInt 1))) eYes (eCall g_are_apart (aCons (eOp dIx (eVar 0) (eVar 1)) (aCons (eOp dIx (eVar 0) (eOp dAdd (eVar 1) (eInt 1))) aNil)))) aNil))))
def g_fits_change : GF := fnOf 1 3 F_fits_change
/-- need_change: 0 value -/
def F_need_change : SF :=
    (sIf (eNot (eCall g_fits_change (aCons (eVar 0) aNil))) (sRaise "InvalidChange") sNil)
def g_need_change : GF := fnOf 1 1 F_need_change
/-- need_worth: 0 value, 1 low -/
def F_need_worth : SF :=
    (sIf (eNot (eCall g_is_whole (aCons (eVar 0) (aCons (eVar 1) (aCons (eInt (1000000000000000000000000000000)) aNil))))) (sRaise "InvalidWorth") sNil)
def g_need_worth : GF := fnOf 2 2 F_need_worth
def g_need_worth_d : GF := fun ws μ => fnOf 2 2 F_need_worth (ws ++ ([(PyData.int (-1000000000000000000000000000000))] : List PyData).map W.d) μ
/-- has: 0 piece, 1 worth -/
def F_has : SF :=
    (sRet (eAnd (eOr (eIsN (eOp dIx (eVar 0) (eInt 0))) (eOp dLe (eOp dIx (eVar 0) (eInt 0)) (eVar 1))) (eOr (eIsN (eOp dIx (eVar 0) (eInt 1))) (eOp dLe (eVar 1) (eOp dIx (eVar 0) (eInt 1))))))
def g_has : GF := fnOf 2 2 F_has
/-- piece_of: 0 change, 1 worth, 2 piece -/
def F_piece_of : SF :=
    (sSeq (sFor (tName 2) (iSeq (eVar 0)) (sIf (eCall g_has (aCons (eVar 2) (aCons (eVar 1) aNil))) (sRet (eVar 2)) sNil))
    (sRet eNon))
def g_piece_of : GF := fnOf 2 3 F_piece_of
/-- made: 0 piece, 1 worth -/
def F_made : SF :=
    (sSeq (sIf (eIsN (eVar 0)) (sRet (eVar 1)) sNil)
    (sRet (eIf (eOp dEq (eOp dIx (eVar 0) (eInt 2)) (eStr "add")) (eOp dAdd (eVar 1) (eOp dIx (eVar 0) (eInt 3))) (eOp dIx (eVar 0) (eInt 3)))))
def g_made : GF := fnOf 2 2 F_made
/-- changed_by: 0 change, 1 worth -/
def F_changed_by : SF :=
    (sRet (eCall g_made (aCons (eCall g_piece_of (aCons (eVar 0) (aCons (eVar 1) aNil))) (aCons (eVar 1) aNil))))
def g_changed_by : GF := fnOf 2 2 F_changed_by
/-- is_change: 0 value -/
def F_is_change : SF :=
    (sRet (eCall g_fits_change (aCons (eVar 0) aNil)))
def g_is_change : GF := fnOf 1 1 F_is_change
/-- fits: 0 change, 1 worth -/
def F_fits : SF :=
    (sSeq (sDrop (eCall g_need_change (aCons (eVar 0) aNil)))
    (sSeq (sDrop (eCall g_need_worth_d (aCons (eVar 1) aNil)))
    (sRet (eNotN (eCall g_piece_of (aCons (eVar 0) (aCons (eVar 1) aNil)))))))
def g_fits : GF := fnOf 2 2 F_fits
/-- changed: 0 change, 1 worth -/
def F_changed : SF :=
    (sSeq (sDrop (eCall g_need_change (aCons (eVar 0) aNil)))
    (sSeq (sDrop (eCall g_need_worth_d (aCons (eVar 1) aNil)))
    (sRet (eCall g_changed_by (aCons (eVar 0) (aCons (eVar 1) aNil))))))
def g_changed : GF := fnOf 2 2 F_changed
/-- is_walk: 0 value -/
def F_is_walk : SF :=
    (sSeq (sIf (eOr (eNot (eIsi .tuple (eVar 0))) (eOr (eOp dEq (eVar 0) (eTup aNil)) (eOr (eNot (eIsi .str (eOp dIx (eVar 0) (eInt 0)))) (eOp dNotIn (eOp dIx (eVar 0) (eInt 0)) (eC (.tuple [(.str "up"), (.str "down"), (.str "first"), (.str "place")])))))) (sRet (eBl false)) sNil)
    (sSeq (sIf (eOp dIn (eOp dIx (eVar 0) (eInt 0)) (eTup (aCons (eStr "first") (aCons (eStr "place") aNil)))) (sRet (eOp dEq (eBlt bLen (aCons (eVar 0) aNil)) (eInt 1))) sNil)
    (sRet (eAnd (eOp dEq (eBlt bLen (aCons (eVar 0) aNil)) (eInt 3)) (eCall g_are_ends (aCons (eOp dIx (eVar 0) (eInt 1)) (aCons (eOp dIx (eVar 0) (eInt 2)) aNil)))))))
def g_is_walk : GF := fnOf 1 1 F_is_walk
/-- one_way: 0 change, 1 some, 2 piece -/
def F_one_way : SF :=
    (sSeq (sAsg 1 (eLc [2] (tName 2) (iSeq (eVar 0)) (eOp dEq (eOp dIx (eVar 2) (eInt 2)) (eStr "add")) (eOp dGt (eOp dIx (eVar 2) (eInt 3)) (eInt 0))))
    (sRet (eOr (eOp dNotIn (eBl true) (eVar 1)) (eOp dNotIn (eBl false) (eVar 1)))))
def g_one_way : GF := fnOf 1 3 F_one_way
/-- fits_statement: 0 value -/
def F_fits_statement : SF :=
    (sSeq (sIf (eOr (eNot (eIsi .tuple (eVar 0))) (eOr (eOp dNe (eBlt bLen (aCons (eVar 0) aNil)) (eInt 2)) (eOr (eNot (eCall g_fits_change (aCons (eOp dIx (eVar 0) (eInt 0)) aNil))) (eNot (eCall g_is_walk (aCons (eOp dIx (eVar 0) (eInt 1)) aNil)))))) (sRet (eBl false)) sNil)
    (sRet (eOr (eOp dNe (eOp dIx (eOp dIx (eVar 0) (eInt 1)) (eInt 0)) (eStr "place")) (eCall g_one_way (aCons (eOp dIx (eVar 0) (eInt 0)) aNil)))))
def g_fits_statement : GF := fnOf 1 1 F_fits_statement
/-- need_statement: 0 value -/
def F_need_statement : SF :=
    (sIf (eNot (eCall g_fits_statement (aCons (eVar 0) aNil))) (sRaise "InvalidStatement") sNil)
def g_need_statement : GF := fnOf 1 1 F_need_statement
/-- turned_end: 0 end -/
def F_turned_end : SF :=
    (sRet (eIf (eIsN (eVar 0)) eNon (eUn dNeg (eVar 0))))
def g_turned_end : GF := fnOf 1 1 F_turned_end
/-- turned: 0 change, 1 piece -/
def F_turned : SF :=
    (sRet (eBlt bTup (aCons (eLc [1] (tName 1) (iSeq (eUn dRev (eVar 0))) eYes (eTup (aCons (eCall g_turned_end (aCons (eOp dIx (eVar 1) (eInt 1)) aNil)) (aCons (eCall g_turned_end (aCons (eOp dIx (eVar 1) (eInt 0)) aNil)) (aCons (eOp dIx (eVar 1) (eInt 2)) (aCons (eUn dNeg (eOp dIx (eVar 1) (eInt 3))) aNil)))))) aNil)))
def g_turned : GF := fnOf 1 2 F_turned
/-- goes_down: 0 statement, 1 change, 2 walk, 3 piece -/
def F_goes_down : SF :=
    (sSeq (sTgt (Mi.tTup [(tName 1), (tName 2)]) (eVar 0))
    (sSeq (sIf (eOp dEq (eOp dIx (eVar 2) (eInt 0)) (eStr "place")) (sRet (eOp dNe (eLc [3] (tName 3) (iSeq (eVar 1)) (eAnd (eOp dEq (eOp dIx (eVar 3) (eInt 2)) (eStr "add")) (eOp dLt (eOp dIx (eVar 3) (eInt 3)) (eInt 0))) (eVar 3)) (eLst aNil))) sNil)
    (sRet (eOp dEq (eOp dIx (eVar 2) (eInt 0)) (eStr "down")))))
def g_goes_down : GF := fnOf 1 4 F_goes_down
/-- risen: 0 statement, 1 change, 2 walk -/
def F_risen : SF :=
    (sSeq (sIf (eNot (eCall g_goes_down (aCons (eVar 0) aNil))) (sRet (eVar 0)) sNil)
    (sSeq (sTgt (Mi.tTup [(tName 1), (tName 2)]) (eVar 0))
    (sSeq (sIf (eOp dEq (eOp dIx (eVar 2) (eInt 0)) (eStr "place")) (sRet (eTup (aCons (eCall g_turned (aCons (eVar 1) aNil)) (aCons (eVar 2) aNil)))) sNil)
    (sRet (eTup (aCons (eCall g_turned (aCons (eVar 1) aNil)) (aCons (eTup (aCons (eStr "up") (aCons (eCall g_turned_end (aCons (eOp dIx (eVar 2) (eInt 2)) aNil)) (aCons (eCall g_turned_end (aCons (eOp dIx (eVar 2) (eInt 1)) aNil)) aNil)))) aNil)))))))
def g_risen : GF := fnOf 1 3 F_risen
/-- sign_of: 0 statement -/
def F_sign_of : SF :=
    (sRet (eIf (eCall g_goes_down (aCons (eVar 0) aNil)) (eUn dNeg (eInt 1)) (eInt 1)))
def g_sign_of : GF := fnOf 1 1 F_sign_of
/-- in_walk: 0 walk, 1 worth -/
def F_in_walk : SF :=
    (sRet (eOr (eOp dNe (eOp dIx (eVar 0) (eInt 0)) (eStr "up")) (eCall g_has (aCons (eTup (aCons (eOp dIx (eVar 0) (eInt 1)) (aCons (eOp dIx (eVar 0) (eInt 2)) aNil))) (aCons (eVar 1) aNil)))))
def g_in_walk : GF := fnOf 2 2 F_in_walk
/-- is_statement: 0 value -/
def F_is_statement : SF :=
    (sRet (eCall g_fits_statement (aCons (eVar 0) aNil)))
def g_is_statement : GF := fnOf 1 1 F_is_statement
/-- meets: 0 statement, 1 worth -/
def F_meets : SF :=
    (sSeq (sDrop (eCall g_need_statement (aCons (eVar 0) aNil)))
    (sSeq (sDrop (eCall g_need_worth_d (aCons (eVar 1) aNil)))
    (sRet (eCall g_in_walk (aCons (eOp dIx (eCall g_risen (aCons (eVar 0) aNil)) (eInt 1)) (aCons (eOp dMul (eCall g_sign_of (aCons (eVar 0) aNil)) (eVar 1)) aNil))))))
def g_meets : GF := fnOf 2 2 F_meets
/-- _law_drum: 0 cell, 1 turn, 2 great -/
def F__law_drum : SF :=
    (sSeq (sAsg 2 (eIf (eOp dGe (eVar 0) (eOp dPow (eInt 10) (eInt 18))) (eOp dAdd (eOp dDiv (eVar 0) (eInt 7)) (eOp dMul (eInt 61) (eVar 1))) (eInt 0)))
    (sRet (eLstM (aCons (eVar 2) (aCons (eOp dAdd (eOp dMod (eBlt bInt (aCons (eOp dAdd (eOp dMul (eVar 0) (eInt 97)) (eOp dMul (eInt 1087) (eVar 1))) aNil)) (eInt 2077504273)) (eInt 71)) aNil)))))
def g__law_drum : GF := fnOf 2 3 F__law_drum
/-- _law_roll: 0 drum, 1 many, 2 found, 3 deep -/
def F__law_roll : SF :=
    (sSeq (sIf (eOp dGt (eOp dIx (eVar 0) (eInt 0)) (eInt 0)) (sSeq (sAsg 2 (eOp dMod (eBlt bInt (aCons (eOp dIx (eVar 0) (eInt 0)) aNil)) (eVar 1)))
    (sSeq (sSub (eVar 0) (eInt 0) (eOp dDiv (eOp dIx (eVar 0) (eInt 0)) (eVar 1)))
    (sRet (eVar 2)))) sNil)
    (sSeq (sSub (eVar 0) (eInt 1) (eOp dMod (eBlt bInt (aCons (eOp dAdd (eOp dMul (eOp dIx (eVar 0) (eInt 1)) (eInt 30671)) (eInt 8807)) aNil)) (eInt 2147483549)))
    (sSeq (sAsg 3 (eOp dMod (eBlt bInt (aCons (eOp dMul (eOp dIx (eVar 0) (eInt 1)) (eOp dAdd (eOp dIx (eVar 0) (eInt 1)) (eInt 101))) aNil)) (eInt 2147483587)))
    (sRet (eOp dMod (eBlt bInt (aCons (eOp dDiv (eVar 3) (eInt 613)) aNil)) (eVar 1))))))
def g__law_roll : GF := fnOf 2 4 F__law_roll
/-- _law_some: 0 drum, 1 things -/
def F__law_some : SF :=
    (sRet (eOp dIx (eVar 1) (eCall g__law_roll (aCons (eVar 0) (aCons (eBlt bLen (aCons (eVar 1) aNil)) aNil)))))
def g__law_some : GF := fnOf 2 2 F__law_some
/-- _law_change: 0 drum, 1 most, 2 pieces, 3 low, 4 turn, 5 high, 6 word, 7 by -/
def F__law_change : SF :=
    (sSeq (sPar 2 3 (eLstM aNil) (eOp dAdd (eUn dNeg (eInt 20)) (eCall g__law_roll (aCons (eVar 0) (aCons (eInt 8) aNil)))))
    (sSeq (sFor (tName 4) (iRange1 (eOp dAdd (eInt 1) (eCall g__law_roll (aCons (eVar 0) (aCons (eInt 3) aNil))))) (sSeq (sAsg 5 (eOp dAdd (eVar 3) (eCall g__law_some (aCons (eVar 0) (aCons (eLst (aCons (eInt 0) (aCons (eInt 2) (aCons (eInt 5) (aCons (eInt 9) (aCons (eInt 14) aNil)))))) aNil)))))
    (sSeq (sAsg 6 (eCall g__law_some (aCons (eVar 0) (aCons (eLst (aCons (eStr "add") (aCons (eStr "add") (aCons (eStr "add") (aCons (eStr "set") aNil))))) aNil))))
    (sSeq (sAsg 7 (eIf (eOp dEq (eVar 6) (eStr "add")) (eOp dMul (eCall g__law_some (aCons (eVar 0) (aCons (eLst (aCons (eUn dNeg (eInt 1)) (aCons (eInt 1) (aCons (eInt 1) aNil)))) aNil))) (eOp dAdd (eInt 1) (eCall g__law_roll (aCons (eVar 0) (aCons (eVar 1) aNil))))) (eOp dAdd (eUn dNeg (eInt 22)) (eCall g__law_roll (aCons (eVar 0) (aCons (eInt 64) aNil))))))
    (sSeq (sDrop (eApp (eVar 2) (eTup (aCons (eVar 3) (aCons (eVar 5) (aCons (eVar 6) (aCons (eVar 7) aNil)))))))
    (sAsg 3 (eOp dAdd (eOp dAdd (eVar 5) (eInt 1)) (eCall g__law_some (aCons (eVar 0) (aCons (eLst (aCons (eInt 0) (aCons (eInt 0) (aCons (eInt 1) (aCons (eInt 4) aNil))))) aNil))))))))))
    (sSeq (sIf (eOp dEq (eCall g__law_roll (aCons (eVar 0) (aCons (eInt 6) aNil))) (eInt 0)) (sSub (eVar 2) (eInt 0) (eOp dAdd (eTup (aCons eNon aNil)) (eSl dCut (eOp dIx (eVar 2) (eInt 0)) (some (eInt 1)) none))) sNil)
    (sSeq (sIf (eOp dEq (eCall g__law_roll (aCons (eVar 0) (aCons (eInt 6) aNil))) (eInt 0)) (sSub (eVar 2) (eUn dNeg (eInt 1)) (eOp dAdd (eTup (aCons (eOp dIx (eOp dIx (eVar 2) (eUn dNeg (eInt 1))) (eInt 0)) (aCons eNon aNil))) (eSl dCut (eOp dIx (eVar 2) (eUn dNeg (eInt 1))) (some (eInt 2)) none))) sNil)
    (sRet (eBlt bTup (aCons (eVar 2) aNil)))))))
def g__law_change : GF := fnOf 2 8 F__law_change
/-- _law_one_way: 0 change_so, 1 piece -/
def F__law_one_way : SF :=
    (sRet (eBlt bTup (aCons (eLc [1] (tName 1) (iSeq (eVar 0)) eYes (eOp dAdd (eSl dCut (eVar 1) none (some (eInt 3))) (eTup (aCons (eIf (eOp dEq (eOp dIx (eVar 1) (eInt 2)) (eStr "add")) (eBlt bAbs (aCons (eOp dIx (eVar 1) (eInt 3)) aNil)) (eOp dIx (eVar 1) (eInt 3))) aNil)))) aNil)))
def g__law_one_way : GF := fnOf 1 2 F__law_one_way
/-- _law_statement: 0 drum, 1 most, 2 change_so, 3 word, 4 low, 5 high, 6 one -/
def F__law_statement : SF :=
    (sSeq (sPar 2 3 (eCall g__law_change (aCons (eVar 0) (aCons (eVar 1) aNil))) (eCall g__law_some (aCons (eVar 0) (aCons (eLst (aCons (eStr "up") (aCons (eStr "up") (aCons (eStr "down") (aCons (eStr "down") (aCons (eStr "place") (aCons (eStr "first") aNil))))))) aNil))))
    (sSeq (sIf (eOp dEq (eVar 3) (eStr "first")) (sRet (eTup (aCons (eVar 2) (aCons (eTup (aCons (eStr "first") aNil)) aNil)))) sNil)
    (sSeq (sIf (eOp dEq (eVar 3) (eStr "place")) (sSeq (sAsg 2 (eCall g__law_one_way (aCons (eVar 2) aNil)))
    (sSeq (sIf (eOp dEq (eCall g__law_roll (aCons (eVar 0) (aCons (eInt 3) aNil))) (eInt 0)) (sAsg 2 (eBlt bTup (aCons (eLc [6] (tName 6) (iSeq (eVar 2)) eYes (eOp dAdd (eSl dCut (eVar 6) none (some (eInt 3))) (eTup (aCons (eIf (eOp dEq (eOp dIx (eVar 6) (eInt 2)) (eStr "add")) (eUn dNeg (eOp dIx (eVar 6) (eInt 3))) (eOp dIx (eVar 6) (eInt 3))) aNil)))) aNil))) sNil)
    (sRet (eTup (aCons (eVar 2) (aCons (eTup (aCons (eStr "place") aNil)) aNil)))))) sNil)
    (sSeq (sTgt (tUnl [(tName 4), (tName 5)]) (eBlt bSorted (aCons (eLst (aCons (eOp dAdd (eUn dNeg (eInt 22)) (eCall g__law_roll (aCons (eVar 0) (aCons (eInt 60) aNil)))) (aCons (eOp dAdd (eUn dNeg (eInt 22)) (eCall g__law_roll (aCons (eVar 0) (aCons (eInt 60) aNil)))) aNil))) aNil)))
    (sSeq (sAsg 4 (eIf (eOp dGt (eCall g__law_roll (aCons (eVar 0) (aCons (eInt 3) aNil))) (eInt 0)) eNon (eVar 4)))
    (sRet (eTup (aCons (eVar 2) (aCons (eTup (aCons (eVar 3) (aCons (eVar 4) (aCons (eIf (eOp dGt (eCall g__law_roll (aCons (eVar 0) (aCons (eInt 3) aNil))) (eInt 0)) eNon (eVar 5)) aNil)))) aNil)))))))))
def g__law_statement : GF := fnOf 2 7 F__law_statement
/-- _law_has: 0 low, 1 high, 2 worth -/
def F__law_has : SF :=
    (sRet (eAnd (eOr (eIsN (eVar 0)) (eOp dLe (eVar 0) (eVar 2))) (eOr (eIsN (eVar 1)) (eOp dLe (eVar 2) (eVar 1)))))
def g__law_has : GF := fnOf 3 3 F__law_has
/-- _law_piece: 0 change_so, 1 worth, 2 piece -/
def F__law_piece : SF :=
    (sSeq (sFor (tName 2) (iSeq (eVar 0)) (sIf (eCall g__law_has (aCons (eOp dIx (eVar 2) (eInt 0)) (aCons (eOp dIx (eVar 2) (eInt 1)) (aCons (eVar 1) aNil)))) (sRet (eVar 2)) sNil))
    (sRet eNon))
def g__law_piece : GF := fnOf 2 3 F__law_piece
/-- _law_changed: 0 change_so, 1 worth, 2 piece -/
def F__law_changed : SF :=
    (sSeq (sAsg 2 (eCall g__law_piece (aCons (eVar 0) (aCons (eVar 1) aNil))))
    (sSeq (sIf (eIsN (eVar 2)) (sRet (eVar 1)) sNil)
    (sRet (eIf (eOp dEq (eOp dIx (eVar 2) (eInt 2)) (eStr "add")) (eOp dAdd (eVar 1) (eOp dIx (eVar 2) (eInt 3))) (eOp dIx (eVar 2) (eInt 3))))))
def g__law_changed : GF := fnOf 2 3 F__law_changed
/-- _law_is_whole: 0 value, 1 low, 2 high -/
def F__law_is_whole : SF :=
    (sRet (eAnd (eIsi .int (eVar 0)) (eAnd (eNot (eIsi .bool (eVar 0))) (eChain dLe dLe (eVar 1) (eVar 0) (eVar 2)))))
def g__law_is_whole : GF := fnOf 3 3 F__law_is_whole
/-- _law_are_ends: 0 low, 1 high, 2 far, 3 end -/
def F__law_are_ends : SF :=
    (sSeq (sAsg 2 (eOp dPow (eInt 10) (eInt 30)))
    (sSeq (sIf (eOp dNe (eLc [3] (tName 3) (iSeq (eTup (aCons (eVar 0) (aCons (eVar 1) aNil)))) (eAnd (eNotN (eVar 3)) (eNot (eCall g__law_is_whole (aCons (eVar 3) (aCons (eUn dNeg (eVar 2)) (aCons (eVar 2) aNil)))))) (eVar 3)) (eLst aNil)) (sRet (eBl false)) sNil)
    (sRet (eOr (eIsN (eVar 0)) (eOr (eIsN (eVar 1)) (eOp dLe (eVar 0) (eVar 1)))))))
def g__law_are_ends : GF := fnOf 2 4 F__law_are_ends
/-- _law_is_change: 0 value, 1 at, 2 piece -/
def F__law_is_change : SF :=
    (sSeq (sIf (eOr (eNot (eIsi .tuple (eVar 0))) (eOr (eOp dLt (eBlt bLen (aCons (eVar 0) aNil)) (eInt 1)) (eOp dGt (eBlt bLen (aCons (eVar 0) aNil)) (eInt 4)))) (sRet (eBl false)) sNil)
    (sSeq (sFor (Mi.tTup [(tName 1), (tName 2)]) (iEnumD (eVar 0)) (sSeq (sIf (eOr (eNot (eIsi .tuple (eVar 2))) (eOr (eOp dNe (eBlt bLen (aCons (eVar 2) aNil)) (eInt 4)) (eNot (eCall g__law_are_ends (aCons (eOp dIx (eVar 2) (eInt 0)) (aCons (eOp dIx (eVar 2) (eInt 1)) aNil)))))) (sRet (eBl false)) sNil)
    (sSeq (sIf (eOr (eNot (eIsi .str (eOp dIx (eVar 2) (eInt 2)))) (eNot (eCall g__law_is_whole (aCons (eOp dIx (eVar 2) (eInt 3)) (aCons (eUn dNeg (eOp dPow (eInt 10) (eInt 30))) (aCons (eOp dPow (eInt 10) (eInt 30)) aNil)))))) (sRet (eBl false)) sNil)
    (sSeq (sIf (eAnd (eOp dNe (eOp dIx (eVar 2) (eInt 2)) (eStr "set")) (eOr (eOp dNe (eOp dIx (eVar 2) (eInt 2)) (eStr "add")) (eOp dEq (eOp dIx (eVar 2) (eInt 3)) (eInt 0)))) (sRet (eBl false)) sNil)
    (sIf (eAnd (eOp dGt (eVar 1) (eInt 0)) (eOr (eIsN (eOp dIx (eOp dIx (eVar 0) (eOp dSub (eVar 1) (eInt 1))) (eInt 1))) (eOr (eIsN (eOp dIx (eVar 2) (eInt 0))) (eOp dGe (eOp dIx (eOp dIx (eVar 0) (eOp dSub (eVar 1) (eInt 1))) (eInt 1)) (eOp dIx (eVar 2) (eInt 0)))))) (sRet (eBl false)) sNil)))))
    (sRet (eBl true))))
def g__law_is_change : GF := fnOf 1 3 F__law_is_change
/-- _law_is_statement: 0 value, 1 walk, 2 piece -/
def F__law_is_statement : SF :=
    (sSeq (sIf (eOr (eNot (eIsi .tuple (eVar 0))) (eOr (eOp dNe (eBlt bLen (aCons (eVar 0) aNil)) (eInt 2)) (eNot (eCall g__law_is_change (aCons (eOp dIx (eVar 0) (eInt 0)) aNil))))) (sRet (eBl false)) sNil)
    (sSeq (sAsg 1 (eOp dIx (eVar 0) (eInt 1)))
    (sSeq (sIf (eOr (eNot (eIsi .tuple (eVar 1))) (eOr (eOp dNotIn (eBlt bLen (aCons (eVar 1) aNil)) (eTup (aCons (eInt 1) (aCons (eInt 3) aNil)))) (eNot (eIsi .str (eOp dIx (eVar 1) (eInt 0)))))) (sRet (eBl false)) sNil)
    (sSeq (sIf (eOp dEq (eBlt bLen (aCons (eVar 1) aNil)) (eInt 3)) (sRet (eAnd (eOp dIn (eOp dIx (eVar 1) (eInt 0)) (eTup (aCons (eStr "up") (aCons (eStr "down") aNil)))) (eCall g__law_are_ends (aCons (eOp dIx (eVar 1) (eInt 1)) (aCons (eOp dIx (eVar 1) (eInt 2)) aNil))))) sNil)
    (sSeq (sIf (eOp dEq (eOp dIx (eVar 1) (eInt 0)) (eStr "place")) (sRet (eOp dLt (eLenSet (eLc [2] (tName 2) (iSeq (eOp dIx (eVar 0) (eInt 0))) (eOp dEq (eOp dIx (eVar 2) (eInt 2)) (eStr "add")) (eOp dGt (eOp dIx (eVar 2) (eInt 3)) (eInt 0)))) (eInt 2))) sNil)
    (sRet (eOp dEq (eOp dIx (eVar 1) (eInt 0)) (eStr "first"))))))))
def g__law_is_statement : GF := fnOf 1 3 F__law_is_statement
/-- _law_odd: 0 drum, 1 depth, 2 some, 3 row, 4 part -/
def F__law_odd (r__law_odd : GF) : SF :=
    (sSeq (sAsg 2 (eLst (aCons eNon (aCons (eBl true) (aCons (eBl false) (aCons (eInt 0) (aCons (eInt 1) (aCons (eInt 2) (aCons (eUn dNeg (eInt 1)) (aCons (eOp dPow (eInt 10) (eInt 30)) (aCons (eOp dAdd (eOp dPow (eInt 10) (eInt 30)) (eInt 1)) (aCons (eUn dNeg (eOp dPow (eInt 10) (eInt 31))) (aCons (eStr "") (aCons (eStr "add") (aCons (eStr "set") (aCons (eStr "up") (aCons (eStr "first") (aCons (eTup aNil) (aCons (eLst aNil) aNil)))))))))))))))))))
    (sSeq (sAsg 2 (eOp dAdd (eVar 2) (eLst (aCons (eTup (aCons (eInt 0) (aCons (eInt 9) (aCons (eStr "add") (aCons (eInt 1) aNil))))) (aCons (eTup (aCons (eTup (aCons (eInt 0) (aCons (eInt 9) (aCons (eStr "add") (aCons (eInt 1) aNil))))) aNil)) (aCons (eTup (aCons (eStr "up") (aCons eNon (aCons eNon aNil)))) (aCons (eTup (aCons (eStr "place") aNil)) (aCons (eTup (aCons (eInt 1) (aCons (eInt 2) aNil))) (aCons (eStr "sett") aNil)))))))))
    (sSeq (sIf (eOr (eOp dEq (eVar 1) (eInt 0)) (eOp dLt (eCall g__law_roll (aCons (eVar 0) (aCons (eInt 8) aNil))) (eInt 5))) (sRet (eCall g__law_some (aCons (eVar 0) (aCons (eVar 2) aNil)))) sNil)
    (sSeq (sAsg 3 (eLc [4] (tName 4) (iRange1 (eCall g__law_roll (aCons (eVar 0) (aCons (eInt 5) aNil)))) eYes (eCall r__law_odd (aCons (eVar 0) (aCons (eOp dSub (eVar 1) (eInt 1)) aNil)))))
    (sRet (eIf (eOp dEq (eCall g__law_roll (aCons (eVar 0) (aCons (eInt 3) aNil))) (eInt 0)) (eVar 3) (eBlt bTup (aCons (eVar 3) aNil))))))))
def g__law_odd : Nat → GF
  | 0 => fun _ _ => .no
  | n + 1 => fnOf 2 5 (F__law_odd (g__law_odd n))
/-- _law_bent: 0 drum, 1 value, 2 near, 3 at, 4 way -/
def F__law_bent (r__law_bent : GF) : SF :=
    (sSeq (sIf (eOr (eNot (eIsi .tuple (eVar 1))) (eOr (eOp dEq (eVar 1) (eTup aNil)) (eOp dEq (eCall g__law_roll (aCons (eVar 0) (aCons (eInt 7) aNil))) (eInt 0)))) (sSeq (sAsg 2 (eLst (aCons (eCall (g__law_odd 60) (aCons (eVar 0) (aCons (eInt 1) aNil))) (aCons (eCall (g__law_odd 60) (aCons (eVar 0) (aCons (eInt 1) aNil))) aNil))))
    (sSeq (sIf (eIsi .str (eVar 1)) (sAsg 2 (eOp dAdd (eVar 2) (eLst (aCons (eStr "add") (aCons (eStr "set") (aCons (eStr "up") (aCons (eStr "down") (aCons (eStr "first") (aCons (eStr "place") (aCons (eSl dCut (eVar 1) none (some (eUn dNeg (eInt 1)))) (aCons (eM0 mUpper (eVar 1)) aNil))))))))))) (sIf (eIsi .int (eVar 1)) (sAsg 2 (eOp dAdd (eVar 2) (eLst (aCons (eOp dAdd (eVar 1) (eInt 1)) (aCons (eOp dSub (eVar 1) (eInt 1)) (aCons (eNotT (eVar 1)) (aCons (eBlt bStr (aCons (eVar 1) aNil)) (aCons (eUn dNeg (eVar 1)) (aCons eNon aNil))))))))) sNil))
    (sRet (eCall g__law_some (aCons (eVar 0) (aCons (eVar 2) aNil)))))) sNil)
    (sSeq (sPar 3 4 (eCall g__law_roll (aCons (eVar 0) (aCons (eBlt bLen (aCons (eVar 1) aNil)) aNil))) (eCall g__law_roll (aCons (eVar 0) (aCons (eInt 9) aNil))))
    (sSeq (sIf (eOp dEq (eVar 4) (eInt 0)) (sRet (eOp dAdd (eSl dCut (eVar 1) none (some (eVar 3))) (eSl dCut (eVar 1) (some (eOp dAdd (eVar 3) (eInt 1))) none))) sNil)
    (sSeq (sIf (eOp dEq (eVar 4) (eInt 1)) (sRet (eOp dAdd (eSl dCut (eVar 1) none (some (eOp dAdd (eVar 3) (eInt 1)))) (eSl dCut (eVar 1) (some (eVar 3)) none))) sNil)
    (sSeq (sIf (eOp dEq (eVar 4) (eInt 2)) (sRet (eUn dRev (eVar 1))) sNil)
    (sSeq (sIf (eOp dEq (eVar 4) (eInt 3)) (sRet (eBlt bLst (aCons (eVar 1) aNil))) sNil)
    (sRet (eOp dAdd (eOp dAdd (eSl dCut (eVar 1) none (some (eVar 3))) (eTup (aCons (eCall r__law_bent (aCons (eVar 0) (aCons (eOp dIx (eVar 1) (eVar 3)) aNil))) aNil))) (eSl dCut (eVar 1) (some (eOp dAdd (eVar 3) (eInt 1))) none)))))))))
def g__law_bent : Nat → GF
  | 0 => fun _ _ => .no
  | n + 1 => fnOf 2 5 (F__law_bent (g__law_bent n))
/-- _law_judged: 0 value, 1 good, 2 whole, 3 worth, 4 call -/
def F__law_judged : SF :=
    (sSeq (sPar 1 2 (eCall g__law_is_change (aCons (eVar 0) aNil)) (eCall g__law_is_statement (aCons (eVar 0) aNil)))
    (sSeq (sIf (eOr (eOp dNe (eCall g_is_change (aCons (eVar 0) aNil)) (eVar 1)) (eNot (eIsi .bool (eCall g_is_change (aCons (eVar 0) aNil))))) (sRet (eBl false)) sNil)
    (sSeq (sIf (eOr (eOp dNe (eCall g_is_statement (aCons (eVar 0) aNil)) (eVar 2)) (eNot (eIsi .bool (eCall g_is_statement (aCons (eVar 0) aNil))))) (sRet (eBl false)) sNil)
    (sSeq (sIf (eAnd (eNot (eVar 1)) (eOp dNe (eLcW [4] 4 (aCons (eFn "fits") (aCons (eFn "changed") aNil)) (eTry (nmC clsL) (eCallV 4 [("fits", g_fits), ("changed", g_changed)] (aCons (eVar 0) (aCons (eInt 0) aNil))))) (eOp dMul (eLst (aCons (eStr "change value") aNil)) (eInt 2)))) (sRet (eBl false)) sNil)
    (sSeq (sIf (eAnd (eNot (eVar 2)) (eOp dNe (eTry (nmC clsL) (eCall g_meets (aCons (eVar 0) (aCons (eInt 0) aNil)))) (eStr "statement value"))) (sRet (eBl false)) sNil)
    (sSeq (sFor (tName 3) (iSeq (eIf (eVar 1) (eTup (aCons (eUn dNeg (eInt 31)) (aCons (eInt 0) (aCons (eInt 7) (aCons (eOp dPow (eInt 10) (eInt 30)) aNil))))) (eLst aNil))) (sSeq (sIf (eOr (eOp dNe (eCall g_fits (aCons (eVar 0) (aCons (eVar 3) aNil))) (eNotN (eCall g__law_piece (aCons (eVar 0) (aCons (eVar 3) aNil))))) (eNot (eIsi .bool (eCall g_fits (aCons (eVar 0) (aCons (eVar 3) aNil)))))) (sRet (eBl false)) sNil)
    (sIf (eOp dNe (eCall g_changed (aCons (eVar 0) (aCons (eVar 3) aNil))) (eCall g__law_changed (aCons (eVar 0) (aCons (eVar 3) aNil)))) (sRet (eBl false)) sNil)))
    (sSeq (sFor (tName 3) (iSeq (eIf (eVar 2) (eTup (aCons (eUn dNeg (eInt 20)) (aCons (eInt 3) (aCons (eInt 50) aNil)))) (eLst aNil))) (sIf (eOp dNe (eCall g_meets (aCons (eVar 0) (aCons (eVar 3) aNil))) (eOr (eOp dEq (eBlt bLen (aCons (eOp dIx (eVar 0) (eInt 1)) aNil)) (eInt 1)) (eCall g__law_has (aCons (eOp dIx (eOp dIx (eVar 0) (eInt 1)) (eInt 1)) (aCons (eOp dIx (eOp dIx (eVar 0) (eInt 1)) (eInt 2)) (aCons (eVar 3) aNil)))))) (sRet (eBl false)) sNil))
    (sRet (eBl true)))))))))
def g__law_judged : GF := fnOf 1 5 F__law_judged
/-- law: 0 script, 1 cell, 2 drum, 3 one, 4 bent, 5 spoilt, 6 turn, 7 odd, 8 found, 9 up, 10 low, 11 some, 12 walks, 13 value, 14 walk -/
def F_law : SF :=
    (sSeq (sFor (tName 1) (iSeq (eSl dCut (eOp dAdd (eLst (aCons (eInt 0) aNil)) (eVar 0)) none (some (eInt 8)))) (sSeq (sAsg 2 (eCall g__law_drum (aCons (eVar 1) (aCons (eInt 3) aNil))))
    (sSeq (sAsg 3 (eCall g__law_statement (aCons (eVar 2) (aCons (eInt 6) aNil))))
    (sSeq (sIf (eOr (eNot (eCall g__law_judged (aCons (eVar 3) aNil))) (eOr (eNot (eCall g__law_judged (aCons (eOp dIx (eVar 3) (eInt 0)) aNil))) (eNot (eCall g__law_is_statement (aCons (eVar 3) aNil))))) (sRet (eBl false)) sNil)
    (sSeq (sPar 4 5 (eVar 3) (eOp dIx (eVar 3) (eInt 0)))
    (sSeq (sFor (tName 6) (iRange1 (eInt 8)) (sSeq (sAsg 4 (eCall (g__law_bent 60) (aCons (eVar 2) (aCons (eIf (eOp dEq (eOp dMod (eBlt bInt (aCons (eVar 6) aNil)) (eInt 3)) (eInt 0)) (eVar 3) (eVar 4)) aNil))))
    (sSeq (sAsg 5 (eCall (g__law_bent 60) (aCons (eVar 2) (aCons (eIf (eOp dEq (eOp dMod (eBlt bInt (aCons (eVar 6) aNil)) (eInt 3)) (eInt 0)) (eOp dIx (eVar 3) (eInt 0)) (eVar 5)) aNil))))
    (sIf (eOr (eNot (eCall g__law_judged (aCons (eVar 4) aNil))) (eOr (eNot (eCall g__law_judged (aCons (eVar 5) aNil))) (eNot (eCall g__law_judged (aCons (eTup (aCons (eVar 5) (aCons (eOp dIx (eVar 3) (eInt 1)) aNil))) aNil))))) (sRet (eBl false)) sNil))))
    (sSeq (sIf (eNot (eCall g__law_judged (aCons (eCall (g__law_odd 60) (aCons (eVar 2) (aCons (eInt 2) aNil))) aNil))) (sRet (eBl false)) sNil)
    (sFor (tName 7) (iSeq (eTup (aCons eNon (aCons (eBl true) (aCons (eOp dAdd (eOp dPow (eInt 10) (eInt 30)) (eInt 1)) (aCons (eOp dSub (eUn dNeg (eOp dPow (eInt 10) (eInt 30))) (eInt 1)) (aCons (eStr "0") aNil))))))) (sSeq (sAsg 8 (eLstM (aCons (eTry (nmC clsL) (eCall g_fits (aCons (eOp dIx (eVar 3) (eInt 0)) (aCons (eVar 7) aNil)))) aNil)))
    (sSeq (sDrop (eApp (eVar 8) (eTry (nmC clsL) (eCall g_changed (aCons (eOp dIx (eVar 3) (eInt 0)) (aCons (eVar 7) aNil))))))
    (sSeq (sDrop (eApp (eVar 8) (eTry (nmC clsL) (eCall g_meets (aCons (eVar 3) (aCons (eVar 7) aNil))))))
    (sIf (eOp dNe (eVar 8) (eOp dMul (eLst (aCons (eStr "worth value") aNil)) (eInt 3))) (sRet (eBl false)) sNil))))))))))))
    (sSeq (sTgt (Mi.tTup [(tName 9), (tName 10)]) (eTup (aCons (eTup (aCons (eInt 0) (aCons (eInt 9) (aCons (eStr "add") (aCons (eInt 1) aNil))))) (aCons (eTup (aCons (eUn dNeg (eInt 9)) (aCons (eUn dNeg (eInt 1)) (aCons (eStr "set") (aCons (eInt 4) aNil))))) aNil))))
    (sSeq (sAsg 11 (eLstM (aCons (eTup (aCons (eVar 9) aNil)) (aCons (eTup (aCons (eVar 10) (aCons (eVar 9) aNil))) (aCons (eTup (aCons (eVar 9) (aCons (eVar 10) aNil))) (aCons (eTup (aCons (eVar 9) (aCons (eVar 9) aNil))) (aCons (eTup (aCons (eTup (aCons eNon (aCons eNon (aCons (eStr "set") (aCons (eInt 0) aNil))))) aNil)) aNil)))))))
    (sSeq (sDrop (eApp (eVar 11) (eTup (aCons (eTup (aCons eNon (aCons (eInt 5) (aCons (eStr "add") (aCons (eInt 1) aNil))))) (aCons (eTup (aCons (eInt 6) (aCons eNon (aCons (eStr "add") (aCons (eUn dNeg (eInt 1)) aNil))))) aNil)))))
    (sSeq (sAsg 11 (eCatM (eVar 11) (eLst (aCons (eTup (aCons (eTup (aCons (eInt 9) (aCons (eInt 0) (aCons (eStr "add") (aCons (eInt 1) aNil))))) aNil)) (aCons (eTup (aCons (eTup (aCons (eInt 0) (aCons (eInt 9) (aCons (eStr "add") (aCons (eInt 0) aNil))))) aNil)) (aCons (eTup (aCons (eTup (aCons (eInt 0) (aCons eNon (aCons (eStr "set") (aCons (eInt 1) aNil))))) (aCons (eTup (aCons (eInt 5) (aCons (eInt 6) (aCons (eStr "set") (aCons (eInt 1) aNil))))) aNil))) (aCons (eTup aNil) (aCons (eOp dMul (eTup (aCons (eVar 9) aNil)) (eInt 5)) aNil))))))))
    (sSeq (sDrop (eApp (eVar 11) (eTup (aCons (eVar 9) (aCons (eTup (aCons (eInt 9) (aCons (eInt 12) (aCons (eStr "add") (aCons (eInt 1) aNil))))) aNil)))))
    (sSeq (sSeq (sFrz 11) (sIf (eOp dNe (eLc [13] (tName 13) (iSeq (eVar 11)) eYes (eCall g_is_change (aCons (eVar 13) aNil))) (eOp dAdd (eLst (aCons (eBl true) (aCons (eBl true) (aCons (eBl false) (aCons (eBl false) (aCons (eBl true) (aCons (eBl true) aNil))))))) (eOp dMul (eLst (aCons (eBl false) aNil)) (eInt 6)))) (sRet (eBl false)) sNil))
    (sSeq (sAsg 12 (eLst (aCons (eTup (aCons (eStr "up") (aCons (eInt 0) (aCons (eInt 0) aNil)))) (aCons (eTup (aCons (eStr "down") (aCons (eInt 1) (aCons (eInt 0) aNil)))) (aCons (eTup (aCons (eStr "first") aNil)) (aCons (eTup (aCons (eStr "place") aNil)) (aCons (eTup (aCons (eStr "up") aNil)) (aCons (eTup (aCons (eStr "first") (aCons (eInt 0) (aCons (eInt 0) aNil)))) (aCons (eTup (aCons (eStr "left") (aCons (eInt 0) (aCons (eInt 0) aNil)))) aNil)))))))))
    (sSeq (sIf (eOp dNe (eLc [14] (tName 14) (iSeq (eVar 12)) eYes (eCall g_is_statement (aCons (eTup (aCons (eTup (aCons (eVar 9) (aCons (eTup (aCons (eInt 10) (aCons (eInt 19) (aCons (eStr "add") (aCons (eUn dNeg (eInt 1)) aNil))))) aNil))) (aCons (eVar 14) aNil))) aNil))) (eOp dAdd (eLst (aCons (eBl true) (aCons (eBl false) (aCons (eBl true) aNil)))) (eOp dMul (eLst (aCons (eBl false) aNil)) (eInt 4)))) (sRet (eBl false)) sNil)
    (sRet (eAnd (eOp dEq (eLc [13] (tName 13) (iSeq (eVar 11)) (eNot (eCall g__law_judged (aCons (eVar 13) aNil))) (eVar 13)) (eLst aNil)) (eCall g_is_statement (aCons (eTup (aCons (eOp dIx (eVar 11) (eInt 1)) (aCons (eTup (aCons (eStr "place") aNil)) aNil))) aNil)))))))))))))
def g_law : GF := fnOf 1 15 F_law
end Mir

set_option linter.all false
set_option Elab.async false
set_option maxRecDepth 100000
set_option maxHeartbeats 4000000
/-! The walks of the defs (printed by gen.py). -/
namespace Wlk
open PySem PySem.Spec PyProof.Rows L2 Mi L3 Mir
def topS (i : Nat) : Stmt := PySem.Challenge.pw_metagain_k01_changes_known.main.body.getD i (.Pass ⟨0, 0, 0, 0⟩)
structure Txt (K : PySem.W.Frag) (mg : Str → Option Value) : Prop where
  d_is_whole : DefFact K mg "is_whole" (topS 20) ["value", "low", "high"]
  d_is_end : DefFact K mg "is_end" (topS 21) ["value"]
  d_are_ends : DefFact K mg "are_ends" (topS 22) ["low", "high"]
  d_is_piece : DefFact K mg "is_piece" (topS 23) ["value"]
  d_are_apart : DefFact K mg "are_apart" (topS 24) ["one", "other"]
  d_fits_change : DefFact K mg "fits_change" (topS 25) ["value"]
  d_need_change : DefFact K mg "need_change" (topS 26) ["value"]
  d_need_worth : DefFact K mg "need_worth" (topS 27) ["value", "low"]
  d_has : DefFact K mg "has" (topS 28) ["piece", "worth"]
  d_piece_of : DefFact K mg "piece_of" (topS 29) ["change", "worth"]
  d_made : DefFact K mg "made" (topS 30) ["piece", "worth"]
  d_changed_by : DefFact K mg "changed_by" (topS 31) ["change", "worth"]
  d_is_change : DefFact K mg "is_change" (topS 32) ["value"]
  d_fits : DefFact K mg "fits" (topS 33) ["change", "worth"]
  d_changed : DefFact K mg "changed" (topS 34) ["change", "worth"]
  d_is_walk : DefFact K mg "is_walk" (topS 37) ["value"]
  d_one_way : DefFact K mg "one_way" (topS 38) ["change"]
  d_fits_statement : DefFact K mg "fits_statement" (topS 39) ["value"]
  d_need_statement : DefFact K mg "need_statement" (topS 40) ["value"]
  d_turned_end : DefFact K mg "turned_end" (topS 41) ["end"]
  d_turned : DefFact K mg "turned" (topS 42) ["change"]
  d_goes_down : DefFact K mg "goes_down" (topS 43) ["statement"]
  d_risen : DefFact K mg "risen" (topS 44) ["statement"]
  d_sign_of : DefFact K mg "sign_of" (topS 45) ["statement"]
  d_in_walk : DefFact K mg "in_walk" (topS 46) ["walk", "worth"]
  d_is_statement : DefFact K mg "is_statement" (topS 47) ["value"]
  d_meets : DefFact K mg "meets" (topS 48) ["statement", "worth"]
  d__law_drum : DefFact K mg "_law_drum" (topS 50) ["cell", "turn"]
  d__law_roll : DefFact K mg "_law_roll" (topS 51) ["drum", "many"]
  d__law_some : DefFact K mg "_law_some" (topS 52) ["drum", "things"]
  d__law_change : DefFact K mg "_law_change" (topS 53) ["drum", "most"]
  d__law_one_way : DefFact K mg "_law_one_way" (topS 54) ["change_so"]
  d__law_statement : DefFact K mg "_law_statement" (topS 55) ["drum", "most"]
  d__law_has : DefFact K mg "_law_has" (topS 56) ["low", "high", "worth"]
  d__law_piece : DefFact K mg "_law_piece" (topS 57) ["change_so", "worth"]
  d__law_changed : DefFact K mg "_law_changed" (topS 58) ["change_so", "worth"]
  d__law_is_whole : DefFact K mg "_law_is_whole" (topS 59) ["value", "low", "high"]
  d__law_are_ends : DefFact K mg "_law_are_ends" (topS 60) ["low", "high"]
  d__law_is_change : DefFact K mg "_law_is_change" (topS 61) ["value"]
  d__law_is_statement : DefFact K mg "_law_is_statement" (topS 62) ["value"]
  d__law_odd : DefFact K mg "_law_odd" (topS 63) ["drum", "depth"]
  d__law_bent : DefFact K mg "_law_bent" (topS 64) ["drum", "value"]
  d__law_names : DefFact K mg "_law_names" (topS 65) ["e"]
  d__law_error : DefFact K mg "_law_error" (topS 66) ["call"]
  e_need_worth : DefFact1 K mg "need_worth" (topS 27) ["value", "low"] [(.int (-1000000000000000000000000000000))]
  o_InvalidChange : ∃ A, mg "InvalidChange" = some (.ref A)
  o_InvalidPiece : ∃ A, mg "InvalidPiece" = some (.ref A)
  o_InvalidStatement : ∃ A, mg "InvalidStatement" = some (.ref A)
  o_InvalidWorth : ∃ A, mg "InvalidWorth" = some (.ref A)
  o_InvalidNumber : ∃ A, mg "InvalidNumber" = some (.ref A)
  o_InvalidOrder : ∃ A, mg "InvalidOrder" = some (.ref A)
  o_InvalidPrices : ∃ A, mg "InvalidPrices" = some (.ref A)
  o_InvalidPairs : ∃ A, mg "InvalidPairs" = some (.ref A)
  o_InvalidText : ∃ A, mg "InvalidText" = some (.ref A)
  o_InvalidIndex : ∃ A, mg "InvalidIndex" = some (.ref A)
  o_InvalidRow : ∃ A, mg "InvalidRow" = some (.ref A)
  o_InvalidTable : ∃ A, mg "InvalidTable" = some (.ref A)
  o_Unlike : ∃ A, mg "Unlike" = some (.ref A)
  o_Done : ∃ A, mg "Done" = some (.ref A)
  o_NothingToUndo : ∃ A, mg "NothingToUndo" = some (.ref A)
  o_TooMany : ∃ A, mg "TooMany" = some (.ref A)
  o_WalkError : ∃ A, mg "WalkError" = some (.ref A)
  r_cls : ∀ x ∈ clsL, ClsRow K mg x
  z_ValueError : mg "ValueError" = none
  z_abs : mg "abs" = none
  z_all : mg "all" = none
  z_bool : mg "bool" = none
  z_enumerate : mg "enumerate" = none
  z_int : mg "int" = none
  z_isinstance : mg "isinstance" = none
  z_len : mg "len" = none
  z_list : mg "list" = none
  z_range : mg "range" = none
  z_set : mg "set" = none
  z_sorted : mg "sorted" = none
  z_str : mg "str" = none
  z_tuple : mg "tuple" = none
  z_zip : mg "zip" = none
  c_FAR : ∃ tk, mg "FAR" = some (.int (1000000000000000000000000000000) tk)
  c_WALKS : GTup K mg "WALKS" [(.str "up"), (.str "down"), (.str "first"), (.str "place")]
  x_InvalidChange : OwnEx K mg "InvalidChange"
  x_InvalidStatement : OwnEx K mg "InvalidStatement"
  x_InvalidWorth : OwnEx K mg "InvalidWorth"
structure LTxt (K : PySem.W.Frag) (mg : Str → Option Value) (base : Heap) (T : List (Addr × Str)) : Prop where
  l_none : True
  l__law_judged : LamF K mg base T "_law_judged" (topS 67) ["value"]
section
variable {P : Program} {w : World} {K : PySem.W.Frag} {mg : Str → Option Value} {base : Heap} {T : List (Addr × Str)}
theorem h_is_whole (t : Txt K mg) : HasFn P w K mg base T 1 "is_whole" g_is_whole :=
  fn_okD t.d_is_whole (show FnScope ["value", "low", "high"] ["value", "low", "high"] (defScope (topS 20)) from ⟨rfl, rfl, rfl, by decide +kernel, rfl, by decide +kernel, by decide +kernel⟩) fun f cdv A outer s H E ck hp => by
    unfold F_is_whole
    exact (dss_one (ds_ret (de_and (de_isi .int t.z_isinstance PyProof.Rows.boot_isinstance t.z_int PyProof.Rows.boot_int (de_var 0)) (de_and (de_not (de_isi .bool t.z_isinstance PyProof.Rows.boot_isinstance t.z_bool PyProof.Rows.boot_bool (de_var 0))) (de_one (de_chain op_le os_cmpI op_le os_cmpI (de_var 1) (de_var 0) (de_var 2)))))))
theorem h_is_end (t : Txt K mg) : HasFn P w K mg base T 2 "is_end" g_is_end :=
  fn_okD t.d_is_end (show FnScope ["value"] ["value"] (defScope (topS 21)) from ⟨rfl, rfl, rfl, by decide +kernel, rfl, by decide +kernel, by decide +kernel⟩) fun f cdv A outer s H E ck hp => by
    unfold F_is_end
    exact (dss_one (ds_ret (de_or (de_isN (de_var 0)) (de_one (de_call ck (h_is_whole t) (da_cons (de_var 0) (da_cons (de_un un_negA os_neg (de_gint t.c_FAR)) (da_cons (de_gint t.c_FAR) da_nil))))))))
theorem h_are_ends (t : Txt K mg) : HasFn P w K mg base T 3 "are_ends" g_are_ends :=
  fn_okD t.d_are_ends (show FnScope ["low", "high"] ["low", "high"] (defScope (topS 22)) from ⟨rfl, rfl, rfl, by decide +kernel, rfl, by decide +kernel, by decide +kernel⟩) fun f cdv A outer s H E ck hp => by
    unfold F_are_ends
    exact (dss_one (ds_ret (de_and (de_call ck (h_is_end t) (da_cons (de_var 0) da_nil)) (de_and (de_call ck (h_is_end t) (da_cons (de_var 1) da_nil)) (de_one (de_or (de_isN (de_var 0)) (de_or (de_isN (de_var 1)) (de_one (de_cmp op_le os_cmpI (de_var 0) (de_var 1))))))))))
theorem h_is_piece (t : Txt K mg) : HasFn P w K mg base T 4 "is_piece" g_is_piece :=
  fn_okD t.d_is_piece (show FnScope ["value"] ["value"] (defScope (topS 23)) from ⟨rfl, rfl, rfl, by decide +kernel, rfl, by decide +kernel, by decide +kernel⟩) fun f cdv A outer s H E ck hp => by
    unfold F_is_piece
    exact (dss_cons (ds_if (dt_w (dw_or (dt_not (dt_val (de_isi .tuple t.z_isinstance PyProof.Rows.boot_isinstance t.z_tuple PyProof.Rows.boot_tuple (de_var 0)))) (dw_or (dt_cmp (op_neD ck.hu) os_ne (de_blt call_len bs_len t.z_len PySem.boot_len (da_cons (de_var 0) da_nil)) de_int) (dw_or1 (dt_not (dt_val (de_call ck (h_are_ends t) (da_cons (de_ix (de_var 0) de_int) (da_cons (de_ix (de_var 0) de_int) da_nil))))))))) (dss_one (ds_ret de_bl)) dss_nil)
    (dss_cons (ds_if (dt_w (dw_or (dt_not (dt_val (de_isi .str t.z_isinstance PyProof.Rows.boot_isinstance t.z_str PyProof.Rows.boot_str (de_ix (de_var 0) de_int)))) (dw_or1 (dt_not (dt_val (de_call ck (h_is_whole t) (da_cons (de_ix (de_var 0) de_int) (da_cons (de_un un_negA os_neg (de_gint t.c_FAR)) (da_cons (de_gint t.c_FAR) da_nil))))))))) (dss_one (ds_ret de_bl)) dss_nil)
    (dss_one (ds_ret (de_or (de_cmp (op_eqD ck.hu) os_eq (de_ix (de_var 0) de_int) de_str) (de_one (de_and (de_cmp (op_eqD ck.hu) os_eq (de_ix (de_var 0) de_int) de_str) (de_one (de_cmp (op_neD ck.hu) os_ne (de_ix (de_var 0) de_int) de_int)))))))))
theorem h_are_apart (t : Txt K mg) : HasFn P w K mg base T 1 "are_apart" g_are_apart :=
  fn_okD t.d_are_apart (show FnScope ["one", "other"] ["one", "other"] (defScope (topS 24)) from ⟨rfl, rfl, rfl, by decide +kernel, rfl, by decide +kernel, by decide +kernel⟩) fun f cdv A outer s H E ck hp => by
    unfold F_are_apart
    exact (dss_one (ds_ret (de_and (de_notN (de_ix (de_var 0) de_int)) (de_and (de_notN (de_ix (de_var 1) de_int)) (de_one (de_cmp op_lt os_cmpI (de_ix (de_var 0) de_int) (de_ix (de_var 1) de_int)))))))
theorem h_fits_change (t : Txt K mg) : HasFn P w K mg base T 5 "fits_change" g_fits_change :=
  fn_okD t.d_fits_change (show FnScope ["value", "at", "piece"] ["value"] (defScope (topS 25)) from ⟨rfl, rfl, rfl, by decide +kernel, rfl, by decide +kernel, by decide +kernel⟩) fun f cdv A outer s H E ck hp => by
    unfold F_fits_change
    exact (dss_cons (ds_if (dt_w (dw_or (dt_not (dt_val (de_isi .tuple t.z_isinstance PyProof.Rows.boot_isinstance t.z_tuple PyProof.Rows.boot_tuple (de_var 0)))) (dw_or (dt_not (dt_chain op_le os_cmpI op_le os_cmpI de_int (de_blt call_len bs_len t.z_len PySem.boot_len (da_cons (de_var 0) da_nil)) de_int)) (dw_or1 (dt_not (dt_val (de_blt (cr_all ck.calm) bs_all t.z_all PyProof.Rows.boot_all (da_cons (de_lc ck (di_seq (de_var 0)) (blkOk_by (own := [("piece", 2)]) (by kernel_rfl)) (fun _ _ _ _ _ => (dg_name 2 ck.nd)) (fun _ _ _ _ _ ck => dc_nil) (fun _ _ _ _ _ ck => (de_call ck (h_is_piece t) (da_cons (de_var 2) da_nil)))) da_nil)))))))) (dss_one (ds_ret de_bl)) dss_nil)
    (dss_one (ds_ret (de_blt (cr_all ck.calm) bs_all t.z_all PyProof.Rows.boot_all (da_cons (de_lc ck (di_range1 (de_op op_subA os_sub (de_blt call_len bs_len t.z_len PySem.boot_len (da_cons (de_var 0) da_nil)) de_int) t.z_range) (blkOk_by (own := [("at", 1)]) (by kernel_rfl)) (fun _ _ _ _ _ => (dg_name 1 ck.nd)) (fun _ _ _ _ _ ck => dc_nil) (fun _ _ _ _ _ ck => (de_call ck (h_are_apart t) (da_cons (de_ix (de_var 0) (de_var 1)) (da_cons (de_ix (de_var 0) (de_op op_addA os_add (de_var 1) de_int)) da_nil))))) da_nil)))))
theorem h_need_change (t : Txt K mg) : HasFn P w K mg base T 6 "need_change" g_need_change :=
  fn_okD t.d_need_change (show FnScope ["value"] ["value"] (defScope (topS 26)) from ⟨rfl, rfl, rfl, by decide +kernel, rfl, by decide +kernel, by decide +kernel⟩) fun f cdv A outer s H E ck hp => by
    unfold F_need_change
    exact (dss_one (ds_if (dt_not (dt_val (de_call ck (h_fits_change t) (da_cons (de_var 0) da_nil)))) (dss_one (ds_raise ck t.x_InvalidChange)) dss_nil))
theorem h_need_worth (t : Txt K mg) : HasFn P w K mg base T 2 "need_worth" g_need_worth :=
  fn_okD t.d_need_worth (show FnScope ["value", "low"] ["value", "low"] (defScope (topS 27)) from ⟨rfl, rfl, rfl, by decide +kernel, rfl, by decide +kernel, by decide +kernel⟩) fun f cdv A outer s H E ck hp => by
    unfold F_need_worth
    exact (dss_one (ds_if (dt_not (dt_val (de_call ck (h_is_whole t) (da_cons (de_var 0) (da_cons (de_var 1) (da_cons (de_gint t.c_FAR) da_nil)))))) (dss_one (ds_raise ck t.x_InvalidWorth)) dss_nil))
theorem h_need_worth_d (t : Txt K mg) : HasFn P w K mg base T 2 "need_worth" g_need_worth_d :=
  fn_ok1 t.e_need_worth (show FnScope ["value", "low"] ["value", "low"] (defScope (topS 27)) from ⟨rfl, rfl, rfl, by decide +kernel, rfl, by decide +kernel, by decide +kernel⟩) fun f cdv A outer s H E ck hp => by
    unfold F_need_worth
    exact (dss_one (ds_if (dt_not (dt_val (de_call ck (h_is_whole t) (da_cons (de_var 0) (da_cons (de_var 1) (da_cons (de_gint t.c_FAR) da_nil)))))) (dss_one (ds_raise ck t.x_InvalidWorth)) dss_nil))
theorem h_has (t : Txt K mg) : HasFn P w K mg base T 1 "has" g_has :=
  fn_okD t.d_has (show FnScope ["piece", "worth"] ["piece", "worth"] (defScope (topS 28)) from ⟨rfl, rfl, rfl, by decide +kernel, rfl, by decide +kernel, by decide +kernel⟩) fun f cdv A outer s H E ck hp => by
    unfold F_has
    exact (dss_one (ds_ret (de_and (de_or (de_isN (de_ix (de_var 0) de_int)) (de_one (de_cmp op_le os_cmpI (de_ix (de_var 0) de_int) (de_var 1)))) (de_one (de_or (de_isN (de_ix (de_var 0) de_int)) (de_one (de_cmp op_le os_cmpI (de_var 1) (de_ix (de_var 0) de_int))))))))
theorem h_piece_of (t : Txt K mg) : HasFn P w K mg base T 2 "piece_of" g_piece_of :=
  fn_okD t.d_piece_of (show FnScope ["change", "worth", "piece"] ["change", "worth"] (defScope (topS 29)) from ⟨rfl, rfl, rfl, by decide +kernel, rfl, by decide +kernel, by decide +kernel⟩) fun f cdv A outer s H E ck hp => by
    unfold F_piece_of
    exact (dss_cons (ds_for ck hp (di_seq (de_var 0)) (dg_name 2 ck.nd) (dss_one (ds_if (dt_val (de_call ck (h_has t) (da_cons (de_var 2) (da_cons (de_var 1) da_nil)))) (dss_one (ds_ret (de_var 2))) dss_nil)))
    (dss_one (ds_ret de_non)))
theorem h_made (t : Txt K mg) : HasFn P w K mg base T 1 "made" g_made :=
  fn_okD t.d_made (show FnScope ["piece", "worth"] ["piece", "worth"] (defScope (topS 30)) from ⟨rfl, rfl, rfl, by decide +kernel, rfl, by decide +kernel, by decide +kernel⟩) fun f cdv A outer s H E ck hp => by
    unfold F_made
    exact (dss_cons (ds_if (dt_isN (de_var 0)) (dss_one (ds_ret (de_var 1))) dss_nil)
    (dss_one (ds_ret (de_if (dt_cmp (op_eqD ck.hu) os_eq (de_ix (de_var 0) de_int) de_str) (de_op op_addA os_add (de_var 1) (de_ix (de_var 0) de_int)) (de_ix (de_var 0) de_int)))))
theorem h_changed_by (t : Txt K mg) : HasFn P w K mg base T 3 "changed_by" g_changed_by :=
  fn_okD t.d_changed_by (show FnScope ["change", "worth"] ["change", "worth"] (defScope (topS 31)) from ⟨rfl, rfl, rfl, by decide +kernel, rfl, by decide +kernel, by decide +kernel⟩) fun f cdv A outer s H E ck hp => by
    unfold F_changed_by
    exact (dss_one (ds_ret (de_call ck (h_made t) (da_cons (de_call ck (h_piece_of t) (da_cons (de_var 0) (da_cons (de_var 1) da_nil))) (da_cons (de_var 1) da_nil)))))
theorem h_is_change (t : Txt K mg) : HasFn P w K mg base T 6 "is_change" g_is_change :=
  fn_okD t.d_is_change (show FnScope ["value"] ["value"] (defScope (topS 32)) from ⟨rfl, rfl, rfl, by decide +kernel, rfl, by decide +kernel, by decide +kernel⟩) fun f cdv A outer s H E ck hp => by
    unfold F_is_change
    exact (dss_one (ds_ret (de_call ck (h_fits_change t) (da_cons (de_var 0) da_nil))))
theorem h_fits (t : Txt K mg) : HasFn P w K mg base T 7 "fits" g_fits :=
  fn_okD t.d_fits (show FnScope ["change", "worth"] ["change", "worth"] (defScope (topS 33)) from ⟨rfl, rfl, rfl, by decide +kernel, rfl, by decide +kernel, by decide +kernel⟩) fun f cdv A outer s H E ck hp => by
    unfold F_fits
    exact (dss_cons (ds_expr (de_call ck (h_need_change t) (da_cons (de_var 0) da_nil)))
    (dss_cons (ds_expr (de_call ck (h_need_worth_d t) (da_cons (de_var 1) da_nil)))
    (dss_one (ds_ret (de_notN (de_call ck (h_piece_of t) (da_cons (de_var 0) (da_cons (de_var 1) da_nil))))))))
theorem h_changed (t : Txt K mg) : HasFn P w K mg base T 7 "changed" g_changed :=
  fn_okD t.d_changed (show FnScope ["change", "worth"] ["change", "worth"] (defScope (topS 34)) from ⟨rfl, rfl, rfl, by decide +kernel, rfl, by decide +kernel, by decide +kernel⟩) fun f cdv A outer s H E ck hp => by
    unfold F_changed
    exact (dss_cons (ds_expr (de_call ck (h_need_change t) (da_cons (de_var 0) da_nil)))
    (dss_cons (ds_expr (de_call ck (h_need_worth_d t) (da_cons (de_var 1) da_nil)))
    (dss_one (ds_ret (de_call ck (h_changed_by t) (da_cons (de_var 0) (da_cons (de_var 1) da_nil)))))))
theorem h_is_walk (t : Txt K mg) : HasFn P w K mg base T 4 "is_walk" g_is_walk :=
  fn_okD t.d_is_walk (show FnScope ["value"] ["value"] (defScope (topS 37)) from ⟨rfl, rfl, rfl, by decide +kernel, rfl, by decide +kernel, by decide +kernel⟩) fun f cdv A outer s H E ck hp => by
    unfold F_is_walk
    exact (dss_cons (ds_if (dt_w (dw_or (dt_not (dt_val (de_isi .tuple t.z_isinstance PyProof.Rows.boot_isinstance t.z_tuple PyProof.Rows.boot_tuple (de_var 0)))) (dw_or (dt_cmp (op_eqD ck.hu) os_eq (de_var 0) (de_tup da_nil)) (dw_or (dt_not (dt_val (de_isi .str t.z_isinstance PyProof.Rows.boot_isinstance t.z_str PyProof.Rows.boot_str (de_ix (de_var 0) de_int)))) (dw_or1 (dt_cmp op_notInA os_notIn (de_ix (de_var 0) de_int) (de_gtup t.c_WALKS))))))) (dss_one (ds_ret de_bl)) dss_nil)
    (dss_cons (ds_if (dt_cmp op_inA os_in (de_ix (de_var 0) de_int) (de_tup (da_cons de_str (da_cons de_str da_nil)))) (dss_one (ds_ret (de_cmp (op_eqD ck.hu) os_eq (de_blt call_len bs_len t.z_len PySem.boot_len (da_cons (de_var 0) da_nil)) de_int))) dss_nil)
    (dss_one (ds_ret (de_and (de_cmp (op_eqD ck.hu) os_eq (de_blt call_len bs_len t.z_len PySem.boot_len (da_cons (de_var 0) da_nil)) de_int) (de_one (de_call ck (h_are_ends t) (da_cons (de_ix (de_var 0) de_int) (da_cons (de_ix (de_var 0) de_int) da_nil)))))))))
theorem h_one_way (t : Txt K mg) : HasFn P w K mg base T 1 "one_way" g_one_way :=
  fn_okD t.d_one_way (show FnScope ["change", "some", "piece"] ["change"] (defScope (topS 38)) from ⟨rfl, rfl, rfl, by decide +kernel, rfl, by decide +kernel, by decide +kernel⟩) fun f cdv A outer s H E ck hp => by
    unfold F_one_way
    exact (dss_cons (ds_setLc 1 ck (di_seq (de_var 0)) (blkOk_by (own := [("piece", 2)]) (by kernel_rfl)) (fun _ _ _ _ _ => (dg_name 2 ck.nd)) (fun _ _ _ _ _ ck => (dc_one (dt_cmp (op_eqD ck.hu) os_eq (de_ix (de_var 2) de_int) de_str))) (fun _ _ _ _ _ ck => (de_cmp op_gt os_cmpI (de_ix (de_var 2) de_int) de_int)))
    (dss_one (ds_ret (de_or (de_cmp op_notInA os_notIn de_bl (de_var 1)) (de_one (de_cmp op_notInA os_notIn de_bl (de_var 1)))))))
theorem h_fits_statement (t : Txt K mg) : HasFn P w K mg base T 6 "fits_statement" g_fits_statement :=
  fn_okD t.d_fits_statement (show FnScope ["value"] ["value"] (defScope (topS 39)) from ⟨rfl, rfl, rfl, by decide +kernel, rfl, by decide +kernel, by decide +kernel⟩) fun f cdv A outer s H E ck hp => by
    unfold F_fits_statement
    exact (dss_cons (ds_if (dt_w (dw_or (dt_not (dt_val (de_isi .tuple t.z_isinstance PyProof.Rows.boot_isinstance t.z_tuple PyProof.Rows.boot_tuple (de_var 0)))) (dw_or (dt_cmp (op_neD ck.hu) os_ne (de_blt call_len bs_len t.z_len PySem.boot_len (da_cons (de_var 0) da_nil)) de_int) (dw_or (dt_not (dt_val (de_call ck (h_fits_change t) (da_cons (de_ix (de_var 0) de_int) da_nil)))) (dw_or1 (dt_not (dt_val (de_call ck (h_is_walk t) (da_cons (de_ix (de_var 0) de_int) da_nil))))))))) (dss_one (ds_ret de_bl)) dss_nil)
    (dss_one (ds_ret (de_or (de_cmp (op_neD ck.hu) os_ne (de_ix (de_ix (de_var 0) de_int) de_int) de_str) (de_one (de_call ck (h_one_way t) (da_cons (de_ix (de_var 0) de_int) da_nil)))))))
theorem h_need_statement (t : Txt K mg) : HasFn P w K mg base T 7 "need_statement" g_need_statement :=
  fn_okD t.d_need_statement (show FnScope ["value"] ["value"] (defScope (topS 40)) from ⟨rfl, rfl, rfl, by decide +kernel, rfl, by decide +kernel, by decide +kernel⟩) fun f cdv A outer s H E ck hp => by
    unfold F_need_statement
    exact (dss_one (ds_if (dt_not (dt_val (de_call ck (h_fits_statement t) (da_cons (de_var 0) da_nil)))) (dss_one (ds_raise ck t.x_InvalidStatement)) dss_nil))
theorem h_turned_end (t : Txt K mg) : HasFn P w K mg base T 1 "turned_end" g_turned_end :=
  fn_okD t.d_turned_end (show FnScope ["end"] ["end"] (defScope (topS 41)) from ⟨rfl, rfl, rfl, by decide +kernel, rfl, by decide +kernel, by decide +kernel⟩) fun f cdv A outer s H E ck hp => by
    unfold F_turned_end
    exact (dss_one (ds_ret (de_if (dt_isN (de_var 0)) de_non (de_un un_negA os_neg (de_var 0)))))
theorem h_turned (t : Txt K mg) : HasFn P w K mg base T 2 "turned" g_turned :=
  fn_okD t.d_turned (show FnScope ["change", "piece"] ["change"] (defScope (topS 42)) from ⟨rfl, rfl, rfl, by decide +kernel, rfl, by decide +kernel, by decide +kernel⟩) fun f cdv A outer s H E ck hp => by
    unfold F_turned
    exact (dss_one (ds_ret (de_bty call_tuple_of bs_tup t.z_tuple PyProof.Rows.boot_tuple (da_cons (de_lc ck (di_seq (de_revA (de_var 0))) (blkOk_by (own := [("piece", 1)]) (by kernel_rfl)) (fun _ _ _ _ _ => (dg_name 1 ck.nd)) (fun _ _ _ _ _ ck => dc_nil) (fun _ _ _ _ _ ck => (de_tup (da_cons (de_call ck (h_turned_end t) (da_cons (de_ix (de_var 1) de_int) da_nil)) (da_cons (de_call ck (h_turned_end t) (da_cons (de_ix (de_var 1) de_int) da_nil)) (da_cons (de_ix (de_var 1) de_int) (da_cons (de_un un_negA os_neg (de_ix (de_var 1) de_int)) da_nil))))))) da_nil))))
theorem h_goes_down (t : Txt K mg) : HasFn P w K mg base T 1 "goes_down" g_goes_down :=
  fn_okD t.d_goes_down (show FnScope ["statement", "change", "walk", "piece"] ["statement"] (defScope (topS 43)) from ⟨rfl, rfl, rfl, by decide +kernel, rfl, by decide +kernel, by decide +kernel⟩) fun f cdv A outer s H E ck hp => by
    unfold F_goes_down
    exact (dss_cons (ds_tgt (de_var 0) (dg_tup ck.calm (dgs_cons (dg_name 1 ck.nd) (dgs_cons (dg_name 2 ck.nd) dgs_nil))))
    (dss_cons (ds_if (dt_cmp (op_eqD ck.hu) os_eq (de_ix (de_var 2) de_int) de_str) (dss_one (ds_ret (de_cmp (op_neD ck.hu) os_ne (de_lc ck (di_seq (de_var 1)) (blkOk_by (own := [("piece", 3)]) (by kernel_rfl)) (fun _ _ _ _ _ => (dg_name 3 ck.nd)) (fun _ _ _ _ _ ck => (dc_one (dt_w (dw_and (dt_cmp (op_eqD ck.hu) os_eq (de_ix (de_var 3) de_int) de_str) (dw_and1 (dt_cmp op_lt os_cmpI (de_ix (de_var 3) de_int) de_int)))))) (fun _ _ _ _ _ ck => (de_var 3))) (de_lst da_nil)))) dss_nil)
    (dss_one (ds_ret (de_cmp (op_eqD ck.hu) os_eq (de_ix (de_var 2) de_int) de_str)))))
theorem h_risen (t : Txt K mg) : HasFn P w K mg base T 3 "risen" g_risen :=
  fn_okD t.d_risen (show FnScope ["statement", "change", "walk"] ["statement"] (defScope (topS 44)) from ⟨rfl, rfl, rfl, by decide +kernel, rfl, by decide +kernel, by decide +kernel⟩) fun f cdv A outer s H E ck hp => by
    unfold F_risen
    exact (dss_cons (ds_if (dt_not (dt_val (de_call ck (h_goes_down t) (da_cons (de_var 0) da_nil)))) (dss_one (ds_ret (de_var 0))) dss_nil)
    (dss_cons (ds_tgt (de_var 0) (dg_tup ck.calm (dgs_cons (dg_name 1 ck.nd) (dgs_cons (dg_name 2 ck.nd) dgs_nil))))
    (dss_cons (ds_if (dt_cmp (op_eqD ck.hu) os_eq (de_ix (de_var 2) de_int) de_str) (dss_one (ds_ret (de_tup (da_cons (de_call ck (h_turned t) (da_cons (de_var 1) da_nil)) (da_cons (de_var 2) da_nil))))) dss_nil)
    (dss_one (ds_ret (de_tup (da_cons (de_call ck (h_turned t) (da_cons (de_var 1) da_nil)) (da_cons (de_tup (da_cons de_str (da_cons (de_call ck (h_turned_end t) (da_cons (de_ix (de_var 2) de_int) da_nil)) (da_cons (de_call ck (h_turned_end t) (da_cons (de_ix (de_var 2) de_int) da_nil)) da_nil)))) da_nil))))))))
theorem h_sign_of (t : Txt K mg) : HasFn P w K mg base T 2 "sign_of" g_sign_of :=
  fn_okD t.d_sign_of (show FnScope ["statement"] ["statement"] (defScope (topS 45)) from ⟨rfl, rfl, rfl, by decide +kernel, rfl, by decide +kernel, by decide +kernel⟩) fun f cdv A outer s H E ck hp => by
    unfold F_sign_of
    exact (dss_one (ds_ret (de_if (dt_val (de_call ck (h_goes_down t) (da_cons (de_var 0) da_nil))) (de_un un_negA os_neg de_int) de_int)))
theorem h_in_walk (t : Txt K mg) : HasFn P w K mg base T 2 "in_walk" g_in_walk :=
  fn_okD t.d_in_walk (show FnScope ["walk", "worth"] ["walk", "worth"] (defScope (topS 46)) from ⟨rfl, rfl, rfl, by decide +kernel, rfl, by decide +kernel, by decide +kernel⟩) fun f cdv A outer s H E ck hp => by
    unfold F_in_walk
    exact (dss_one (ds_ret (de_or (de_cmp (op_neD ck.hu) os_ne (de_ix (de_var 0) de_int) de_str) (de_one (de_call ck (h_has t) (da_cons (de_tup (da_cons (de_ix (de_var 0) de_int) (da_cons (de_ix (de_var 0) de_int) da_nil))) (da_cons (de_var 1) da_nil)))))))
theorem h_is_statement (t : Txt K mg) : HasFn P w K mg base T 7 "is_statement" g_is_statement :=
  fn_okD t.d_is_statement (show FnScope ["value"] ["value"] (defScope (topS 47)) from ⟨rfl, rfl, rfl, by decide +kernel, rfl, by decide +kernel, by decide +kernel⟩) fun f cdv A outer s H E ck hp => by
    unfold F_is_statement
    exact (dss_one (ds_ret (de_call ck (h_fits_statement t) (da_cons (de_var 0) da_nil))))
theorem h_meets (t : Txt K mg) : HasFn P w K mg base T 8 "meets" g_meets :=
  fn_okD t.d_meets (show FnScope ["statement", "worth"] ["statement", "worth"] (defScope (topS 48)) from ⟨rfl, rfl, rfl, by decide +kernel, rfl, by decide +kernel, by decide +kernel⟩) fun f cdv A outer s H E ck hp => by
    unfold F_meets
    exact (dss_cons (ds_expr (de_call ck (h_need_statement t) (da_cons (de_var 0) da_nil)))
    (dss_cons (ds_expr (de_call ck (h_need_worth_d t) (da_cons (de_var 1) da_nil)))
    (dss_one (ds_ret (de_call ck (h_in_walk t) (da_cons (de_ix (de_call ck (h_risen t) (da_cons (de_var 0) da_nil)) de_int) (da_cons (de_op op_mulA os_mul (de_call ck (h_sign_of t) (da_cons (de_var 0) da_nil)) (de_var 1)) da_nil)))))))
theorem h__law_drum (t : Txt K mg) : HasFn P w K mg base T 1 "_law_drum" g__law_drum :=
  fn_okD t.d__law_drum (show FnScope ["cell", "turn", "great"] ["cell", "turn"] (defScope (topS 50)) from ⟨rfl, rfl, rfl, by decide +kernel, rfl, by decide +kernel, by decide +kernel⟩) fun f cdv A outer s H E ck hp => by
    unfold F__law_drum
    exact (dss_cons (ds_set 2 ck (de_if (dt_cmp op_ge os_cmpI (de_var 0) (de_op op_pow os_pow de_int de_int)) (de_op op_addA os_add (de_op op_fdivW os_div (de_var 0) de_int) (de_op op_mulA os_mul de_int (de_var 1))) de_int))
    (dss_one (ds_ret (de_lstM (da_cons (de_var 2) (da_cons (de_op op_addA os_add (de_op op_mod os_mod (de_bty (call_int1.or call_int_str) bs_int t.z_int PyProof.Rows.boot_int (da_cons (de_op op_addA os_add (de_op op_mulA os_mul (de_var 0) de_int) (de_op op_mulA os_mul de_int (de_var 1))) da_nil)) de_int) de_int) da_nil))))))
theorem h__law_roll (t : Txt K mg) : HasFn P w K mg base T 1 "_law_roll" g__law_roll :=
  fn_okD t.d__law_roll (show FnScope ["drum", "many", "found", "deep"] ["drum", "many"] (defScope (topS 51)) from ⟨rfl, rfl, rfl, by decide +kernel, rfl, by decide +kernel, by decide +kernel⟩) fun f cdv A outer s H E ck hp => by
    unfold F__law_roll
    exact (dss_cons (ds_if (dt_cmp op_gt os_cmpI (de_ix (de_var 0) de_int) de_int) (dss_cons (ds_set 2 ck (de_op op_mod os_mod (de_bty (call_int1.or call_int_str) bs_int t.z_int PyProof.Rows.boot_int (da_cons (de_ix (de_var 0) de_int) da_nil)) (de_var 1)))
    (dss_cons (ds_sub (de_op op_fdivW os_div (de_ix (de_var 0) de_int) (de_var 1)) (de_var 0) de_int)
    (dss_one (ds_ret (de_var 2))))) dss_nil)
    (dss_cons (ds_sub (de_op op_mod os_mod (de_bty (call_int1.or call_int_str) bs_int t.z_int PyProof.Rows.boot_int (da_cons (de_op op_addA os_add (de_op op_mulA os_mul (de_ix (de_var 0) de_int) de_int) de_int) da_nil)) de_int) (de_var 0) de_int)
    (dss_cons (ds_set 3 ck (de_op op_mod os_mod (de_bty (call_int1.or call_int_str) bs_int t.z_int PyProof.Rows.boot_int (da_cons (de_op op_mulA os_mul (de_ix (de_var 0) de_int) (de_op op_addA os_add (de_ix (de_var 0) de_int) de_int)) da_nil)) de_int))
    (dss_one (ds_ret (de_op op_mod os_mod (de_bty (call_int1.or call_int_str) bs_int t.z_int PyProof.Rows.boot_int (da_cons (de_op op_fdivW os_div (de_var 3) de_int) da_nil)) (de_var 1)))))))
theorem h__law_some (t : Txt K mg) : HasFn P w K mg base T 2 "_law_some" g__law_some :=
  fn_okD t.d__law_some (show FnScope ["drum", "things"] ["drum", "things"] (defScope (topS 52)) from ⟨rfl, rfl, rfl, by decide +kernel, rfl, by decide +kernel, by decide +kernel⟩) fun f cdv A outer s H E ck hp => by
    unfold F__law_some
    exact (dss_one (ds_ret (de_ix (de_var 1) (de_call ck (h__law_roll t) (da_cons (de_var 0) (da_cons (de_blt call_len bs_len t.z_len PySem.boot_len (da_cons (de_var 1) da_nil)) da_nil))))))
theorem h__law_change (t : Txt K mg) : HasFn P w K mg base T 3 "_law_change" g__law_change :=
  fn_okD t.d__law_change (show FnScope ["drum", "most", "pieces", "low", "turn", "high", "word", "by"] ["drum", "most"] (defScope (topS 53)) from ⟨rfl, rfl, rfl, by decide +kernel, rfl, by decide +kernel, by decide +kernel⟩) fun f cdv A outer s H E ck hp => by
    unfold F__law_change
    exact (dss_cons (ds_par 2 3 ck (de_lstM da_nil) (de_op op_addA os_add (de_un un_negA os_neg de_int) (de_call ck (h__law_roll t) (da_cons (de_var 0) (da_cons de_int da_nil)))))
    (dss_cons (ds_for ck hp (di_range1 (de_op op_addA os_add de_int (de_call ck (h__law_roll t) (da_cons (de_var 0) (da_cons de_int da_nil)))) t.z_range) (dg_name 4 ck.nd) (dss_cons (ds_set 5 ck (de_op op_addA os_add (de_var 3) (de_call ck (h__law_some t) (da_cons (de_var 0) (da_cons (de_lst (da_cons de_int (da_cons de_int (da_cons de_int (da_cons de_int (da_cons de_int da_nil)))))) da_nil)))))
    (dss_cons (ds_set 6 ck (de_call ck (h__law_some t) (da_cons (de_var 0) (da_cons (de_lst (da_cons de_str (da_cons de_str (da_cons de_str (da_cons de_str da_nil))))) da_nil))))
    (dss_cons (ds_set 7 ck (de_if (dt_cmp (op_eqD ck.hu) os_eq (de_var 6) de_str) (de_op op_mulA os_mul (de_call ck (h__law_some t) (da_cons (de_var 0) (da_cons (de_lst (da_cons (de_un un_negA os_neg de_int) (da_cons de_int (da_cons de_int da_nil)))) da_nil))) (de_op op_addA os_add de_int (de_call ck (h__law_roll t) (da_cons (de_var 0) (da_cons (de_var 1) da_nil))))) (de_op op_addA os_add (de_un un_negA os_neg de_int) (de_call ck (h__law_roll t) (da_cons (de_var 0) (da_cons de_int da_nil))))))
    (dss_cons (ds_expr (de_app (de_var 2) (de_tup (da_cons (de_var 3) (da_cons (de_var 5) (da_cons (de_var 6) (da_cons (de_var 7) da_nil)))))))
    (dss_one (ds_set 3 ck (de_op op_addA os_add (de_op op_addA os_add (de_var 5) de_int) (de_call ck (h__law_some t) (da_cons (de_var 0) (da_cons (de_lst (da_cons de_int (da_cons de_int (da_cons de_int (da_cons de_int da_nil))))) da_nil)))))))))))
    (dss_cons (ds_if (dt_cmp (op_eqD ck.hu) os_eq (de_call ck (h__law_roll t) (da_cons (de_var 0) (da_cons de_int da_nil))) de_int) (dss_one (ds_sub (de_op op_addA os_add (de_tup (da_cons de_non da_nil)) (de_sl (de_ix (de_var 2) de_int) (dp_some de_int) dp_none)) (de_var 2) de_int)) dss_nil)
    (dss_cons (ds_if (dt_cmp (op_eqD ck.hu) os_eq (de_call ck (h__law_roll t) (da_cons (de_var 0) (da_cons de_int da_nil))) de_int) (dss_one (ds_sub (de_op op_addA os_add (de_tup (da_cons (de_ix (de_ix (de_var 2) (de_un un_negA os_neg de_int)) de_int) (da_cons de_non da_nil))) (de_sl (de_ix (de_var 2) (de_un un_negA os_neg de_int)) (dp_some de_int) dp_none)) (de_var 2) (de_un un_negA os_neg de_int))) dss_nil)
    (dss_one (ds_ret (de_bty call_tuple_of bs_tup t.z_tuple PyProof.Rows.boot_tuple (da_cons (de_var 2) da_nil))))))))
theorem h__law_one_way (t : Txt K mg) : HasFn P w K mg base T 1 "_law_one_way" g__law_one_way :=
  fn_okD t.d__law_one_way (show FnScope ["change_so", "piece"] ["change_so"] (defScope (topS 54)) from ⟨rfl, rfl, rfl, by decide +kernel, rfl, by decide +kernel, by decide +kernel⟩) fun f cdv A outer s H E ck hp => by
    unfold F__law_one_way
    exact (dss_one (ds_ret (de_bty call_tuple_of bs_tup t.z_tuple PyProof.Rows.boot_tuple (da_cons (de_lc ck (di_seq (de_var 0)) (blkOk_by (own := [("piece", 1)]) (by kernel_rfl)) (fun _ _ _ _ _ => (dg_name 1 ck.nd)) (fun _ _ _ _ _ ck => dc_nil) (fun _ _ _ _ _ ck => (de_op op_addA os_add (de_sl (de_var 1) dp_none (dp_some de_int)) (de_tup (da_cons (de_if (dt_cmp (op_eqD ck.hu) os_eq (de_ix (de_var 1) de_int) de_str) (de_blt call_abs bs_abs t.z_abs PyProof.Rows.boot_abs (da_cons (de_ix (de_var 1) de_int) da_nil)) (de_ix (de_var 1) de_int)) da_nil))))) da_nil))))
theorem h__law_statement (t : Txt K mg) : HasFn P w K mg base T 4 "_law_statement" g__law_statement :=
  fn_okD t.d__law_statement (show FnScope ["drum", "most", "change_so", "word", "low", "high", "one"] ["drum", "most"] (defScope (topS 55)) from ⟨rfl, rfl, rfl, by decide +kernel, rfl, by decide +kernel, by decide +kernel⟩) fun f cdv A outer s H E ck hp => by
    unfold F__law_statement
    exact (dss_cons (ds_par 2 3 ck (de_call ck (h__law_change t) (da_cons (de_var 0) (da_cons (de_var 1) da_nil))) (de_call ck (h__law_some t) (da_cons (de_var 0) (da_cons (de_lst (da_cons de_str (da_cons de_str (da_cons de_str (da_cons de_str (da_cons de_str (da_cons de_str da_nil))))))) da_nil))))
    (dss_cons (ds_if (dt_cmp (op_eqD ck.hu) os_eq (de_var 3) de_str) (dss_one (ds_ret (de_tup (da_cons (de_var 2) (da_cons (de_tup (da_cons de_str da_nil)) da_nil))))) dss_nil)
    (dss_cons (ds_if (dt_cmp (op_eqD ck.hu) os_eq (de_var 3) de_str) (dss_cons (ds_set 2 ck (de_call ck (h__law_one_way t) (da_cons (de_var 2) da_nil)))
    (dss_cons (ds_if (dt_cmp (op_eqD ck.hu) os_eq (de_call ck (h__law_roll t) (da_cons (de_var 0) (da_cons de_int da_nil))) de_int) (dss_one (ds_set 2 ck (de_bty call_tuple_of bs_tup t.z_tuple PyProof.Rows.boot_tuple (da_cons (de_lc ck (di_seq (de_var 2)) (blkOk_by (own := [("one", 6)]) (by kernel_rfl)) (fun _ _ _ _ _ => (dg_name 6 ck.nd)) (fun _ _ _ _ _ ck => dc_nil) (fun _ _ _ _ _ ck => (de_op op_addA os_add (de_sl (de_var 6) dp_none (dp_some de_int)) (de_tup (da_cons (de_if (dt_cmp (op_eqD ck.hu) os_eq (de_ix (de_var 6) de_int) de_str) (de_un un_negA os_neg (de_ix (de_var 6) de_int)) (de_ix (de_var 6) de_int)) da_nil))))) da_nil)))) dss_nil)
    (dss_one (ds_ret (de_tup (da_cons (de_var 2) (da_cons (de_tup (da_cons de_str da_nil)) da_nil))))))) dss_nil)
    (dss_cons (ds_tgt (de_blt cr_sortedI bs_sorted t.z_sorted PyProof.Rows.boot_sorted (da_cons (de_lst (da_cons (de_op op_addA os_add (de_un un_negA os_neg de_int) (de_call ck (h__law_roll t) (da_cons (de_var 0) (da_cons de_int da_nil)))) (da_cons (de_op op_addA os_add (de_un un_negA os_neg de_int) (de_call ck (h__law_roll t) (da_cons (de_var 0) (da_cons de_int da_nil)))) da_nil))) da_nil)) (dg_unl ck.calm (dgs_cons (dg_name 4 ck.nd) (dgs_cons (dg_name 5 ck.nd) dgs_nil))))
    (dss_cons (ds_set 4 ck (de_if (dt_cmp op_gt os_cmpI (de_call ck (h__law_roll t) (da_cons (de_var 0) (da_cons de_int da_nil))) de_int) de_non (de_var 4)))
    (dss_one (ds_ret (de_tup (da_cons (de_var 2) (da_cons (de_tup (da_cons (de_var 3) (da_cons (de_var 4) (da_cons (de_if (dt_cmp op_gt os_cmpI (de_call ck (h__law_roll t) (da_cons (de_var 0) (da_cons de_int da_nil))) de_int) de_non (de_var 5)) da_nil)))) da_nil))))))))))
theorem h__law_has (t : Txt K mg) : HasFn P w K mg base T 1 "_law_has" g__law_has :=
  fn_okD t.d__law_has (show FnScope ["low", "high", "worth"] ["low", "high", "worth"] (defScope (topS 56)) from ⟨rfl, rfl, rfl, by decide +kernel, rfl, by decide +kernel, by decide +kernel⟩) fun f cdv A outer s H E ck hp => by
    unfold F__law_has
    exact (dss_one (ds_ret (de_and (de_or (de_isN (de_var 0)) (de_one (de_cmp op_le os_cmpI (de_var 0) (de_var 2)))) (de_one (de_or (de_isN (de_var 1)) (de_one (de_cmp op_le os_cmpI (de_var 2) (de_var 1))))))))
theorem h__law_piece (t : Txt K mg) : HasFn P w K mg base T 2 "_law_piece" g__law_piece :=
  fn_okD t.d__law_piece (show FnScope ["change_so", "worth", "piece"] ["change_so", "worth"] (defScope (topS 57)) from ⟨rfl, rfl, rfl, by decide +kernel, rfl, by decide +kernel, by decide +kernel⟩) fun f cdv A outer s H E ck hp => by
    unfold F__law_piece
    exact (dss_cons (ds_for ck hp (di_seq (de_var 0)) (dg_name 2 ck.nd) (dss_one (ds_if (dt_val (de_call ck (h__law_has t) (da_cons (de_ix (de_var 2) de_int) (da_cons (de_ix (de_var 2) de_int) (da_cons (de_var 1) da_nil))))) (dss_one (ds_ret (de_var 2))) dss_nil)))
    (dss_one (ds_ret de_non)))
theorem h__law_changed (t : Txt K mg) : HasFn P w K mg base T 3 "_law_changed" g__law_changed :=
  fn_okD t.d__law_changed (show FnScope ["change_so", "worth", "piece"] ["change_so", "worth"] (defScope (topS 58)) from ⟨rfl, rfl, rfl, by decide +kernel, rfl, by decide +kernel, by decide +kernel⟩) fun f cdv A outer s H E ck hp => by
    unfold F__law_changed
    exact (dss_cons (ds_set 2 ck (de_call ck (h__law_piece t) (da_cons (de_var 0) (da_cons (de_var 1) da_nil))))
    (dss_cons (ds_if (dt_isN (de_var 2)) (dss_one (ds_ret (de_var 1))) dss_nil)
    (dss_one (ds_ret (de_if (dt_cmp (op_eqD ck.hu) os_eq (de_ix (de_var 2) de_int) de_str) (de_op op_addA os_add (de_var 1) (de_ix (de_var 2) de_int)) (de_ix (de_var 2) de_int))))))
theorem h__law_is_whole (t : Txt K mg) : HasFn P w K mg base T 1 "_law_is_whole" g__law_is_whole :=
  fn_okD t.d__law_is_whole (show FnScope ["value", "low", "high"] ["value", "low", "high"] (defScope (topS 59)) from ⟨rfl, rfl, rfl, by decide +kernel, rfl, by decide +kernel, by decide +kernel⟩) fun f cdv A outer s H E ck hp => by
    unfold F__law_is_whole
    exact (dss_one (ds_ret (de_and (de_isi .int t.z_isinstance PyProof.Rows.boot_isinstance t.z_int PyProof.Rows.boot_int (de_var 0)) (de_and (de_not (de_isi .bool t.z_isinstance PyProof.Rows.boot_isinstance t.z_bool PyProof.Rows.boot_bool (de_var 0))) (de_one (de_chain op_le os_cmpI op_le os_cmpI (de_var 1) (de_var 0) (de_var 2)))))))
theorem h__law_are_ends (t : Txt K mg) : HasFn P w K mg base T 2 "_law_are_ends" g__law_are_ends :=
  fn_okD t.d__law_are_ends (show FnScope ["low", "high", "far", "end"] ["low", "high"] (defScope (topS 60)) from ⟨rfl, rfl, rfl, by decide +kernel, rfl, by decide +kernel, by decide +kernel⟩) fun f cdv A outer s H E ck hp => by
    unfold F__law_are_ends
    exact (dss_cons (ds_set 2 ck (de_op op_pow os_pow de_int de_int))
    (dss_cons (ds_if (dt_cmp (op_neD ck.hu) os_ne (de_lc ck (di_seq (de_tup (da_cons (de_var 0) (da_cons (de_var 1) da_nil)))) (blkOk_by (own := [("end", 3)]) (by kernel_rfl)) (fun _ _ _ _ _ => (dg_name 3 ck.nd)) (fun _ _ _ _ _ ck => (dc_one (dt_w (dw_and (dt_notN (de_var 3)) (dw_and1 (dt_not (dt_val (de_call ck (h__law_is_whole t) (da_cons (de_var 3) (da_cons (de_un un_negA os_neg (de_var 2)) (da_cons (de_var 2) da_nil))))))))))) (fun _ _ _ _ _ ck => (de_var 3))) (de_lst da_nil)) (dss_one (ds_ret de_bl)) dss_nil)
    (dss_one (ds_ret (de_or (de_isN (de_var 0)) (de_or (de_isN (de_var 1)) (de_one (de_cmp op_le os_cmpI (de_var 0) (de_var 1)))))))))
theorem h__law_is_change (t : Txt K mg) : HasFn P w K mg base T 3 "_law_is_change" g__law_is_change :=
  fn_okD t.d__law_is_change (show FnScope ["value", "at", "piece"] ["value"] (defScope (topS 61)) from ⟨rfl, rfl, rfl, by decide +kernel, rfl, by decide +kernel, by decide +kernel⟩) fun f cdv A outer s H E ck hp => by
    unfold F__law_is_change
    exact (dss_cons (ds_if (dt_w (dw_or (dt_not (dt_val (de_isi .tuple t.z_isinstance PyProof.Rows.boot_isinstance t.z_tuple PyProof.Rows.boot_tuple (de_var 0)))) (dw_or (dt_cmp op_lt os_cmpI (de_blt call_len bs_len t.z_len PySem.boot_len (da_cons (de_var 0) da_nil)) de_int) (dw_or1 (dt_cmp op_gt os_cmpI (de_blt call_len bs_len t.z_len PySem.boot_len (da_cons (de_var 0) da_nil)) de_int))))) (dss_one (ds_ret de_bl)) dss_nil)
    (dss_cons (ds_for ck hp (di_enum (de_var 0) t.z_enumerate) (dg_tup ck.calm (dgs_cons (dg_name 1 ck.nd) (dgs_cons (dg_name 2 ck.nd) dgs_nil))) (dss_cons (ds_if (dt_w (dw_or (dt_not (dt_val (de_isi .tuple t.z_isinstance PyProof.Rows.boot_isinstance t.z_tuple PyProof.Rows.boot_tuple (de_var 2)))) (dw_or (dt_cmp (op_neD ck.hu) os_ne (de_blt call_len bs_len t.z_len PySem.boot_len (da_cons (de_var 2) da_nil)) de_int) (dw_or1 (dt_not (dt_val (de_call ck (h__law_are_ends t) (da_cons (de_ix (de_var 2) de_int) (da_cons (de_ix (de_var 2) de_int) da_nil))))))))) (dss_one (ds_ret de_bl)) dss_nil)
    (dss_cons (ds_if (dt_w (dw_or (dt_not (dt_val (de_isi .str t.z_isinstance PyProof.Rows.boot_isinstance t.z_str PyProof.Rows.boot_str (de_ix (de_var 2) de_int)))) (dw_or1 (dt_not (dt_val (de_call ck (h__law_is_whole t) (da_cons (de_ix (de_var 2) de_int) (da_cons (de_un un_negA os_neg (de_op op_pow os_pow de_int de_int)) (da_cons (de_op op_pow os_pow de_int de_int) da_nil))))))))) (dss_one (ds_ret de_bl)) dss_nil)
    (dss_cons (ds_if (dt_w (dw_and (dt_cmp (op_neD ck.hu) os_ne (de_ix (de_var 2) de_int) de_str) (dw_and1 (dt_w (dw_or (dt_cmp (op_neD ck.hu) os_ne (de_ix (de_var 2) de_int) de_str) (dw_or1 (dt_cmp (op_eqD ck.hu) os_eq (de_ix (de_var 2) de_int) de_int))))))) (dss_one (ds_ret de_bl)) dss_nil)
    (dss_one (ds_if (dt_w (dw_and (dt_cmp op_gt os_cmpI (de_var 1) de_int) (dw_and1 (dt_w (dw_or (dt_isN (de_ix (de_ix (de_var 0) (de_op op_subA os_sub (de_var 1) de_int)) de_int)) (dw_or (dt_isN (de_ix (de_var 2) de_int)) (dw_or1 (dt_cmp op_ge os_cmpI (de_ix (de_ix (de_var 0) (de_op op_subA os_sub (de_var 1) de_int)) de_int) (de_ix (de_var 2) de_int))))))))) (dss_one (ds_ret de_bl)) dss_nil))))))
    (dss_one (ds_ret de_bl))))
theorem h__law_is_statement (t : Txt K mg) : HasFn P w K mg base T 4 "_law_is_statement" g__law_is_statement :=
  fn_okD t.d__law_is_statement (show FnScope ["value", "walk", "piece"] ["value"] (defScope (topS 62)) from ⟨rfl, rfl, rfl, by decide +kernel, rfl, by decide +kernel, by decide +kernel⟩) fun f cdv A outer s H E ck hp => by
    unfold F__law_is_statement
    exact (dss_cons (ds_if (dt_w (dw_or (dt_not (dt_val (de_isi .tuple t.z_isinstance PyProof.Rows.boot_isinstance t.z_tuple PyProof.Rows.boot_tuple (de_var 0)))) (dw_or (dt_cmp (op_neD ck.hu) os_ne (de_blt call_len bs_len t.z_len PySem.boot_len (da_cons (de_var 0) da_nil)) de_int) (dw_or1 (dt_not (dt_val (de_call ck (h__law_is_change t) (da_cons (de_ix (de_var 0) de_int) da_nil)))))))) (dss_one (ds_ret de_bl)) dss_nil)
    (dss_cons (ds_set 1 ck (de_ix (de_var 0) de_int))
    (dss_cons (ds_if (dt_w (dw_or (dt_not (dt_val (de_isi .tuple t.z_isinstance PyProof.Rows.boot_isinstance t.z_tuple PyProof.Rows.boot_tuple (de_var 1)))) (dw_or (dt_cmp op_notInA os_notIn (de_blt call_len bs_len t.z_len PySem.boot_len (da_cons (de_var 1) da_nil)) (de_tup (da_cons de_int (da_cons de_int da_nil)))) (dw_or1 (dt_not (dt_val (de_isi .str t.z_isinstance PyProof.Rows.boot_isinstance t.z_str PyProof.Rows.boot_str (de_ix (de_var 1) de_int)))))))) (dss_one (ds_ret de_bl)) dss_nil)
    (dss_cons (ds_if (dt_cmp (op_eqD ck.hu) os_eq (de_blt call_len bs_len t.z_len PySem.boot_len (da_cons (de_var 1) da_nil)) de_int) (dss_one (ds_ret (de_and (de_cmp op_inA os_in (de_ix (de_var 1) de_int) (de_tup (da_cons de_str (da_cons de_str da_nil)))) (de_one (de_call ck (h__law_are_ends t) (da_cons (de_ix (de_var 1) de_int) (da_cons (de_ix (de_var 1) de_int) da_nil))))))) dss_nil)
    (dss_cons (ds_if (dt_cmp (op_eqD ck.hu) os_eq (de_ix (de_var 1) de_int) de_str) (dss_one (ds_ret (de_cmp op_lt os_cmpI (de_lenSet ck (de_lc ck (di_seq (de_ix (de_var 0) de_int)) (blkOk_by (own := [("piece", 2)]) (by kernel_rfl)) (fun _ _ _ _ _ => (dg_name 2 ck.nd)) (fun _ _ _ _ _ ck => (dc_one (dt_cmp (op_eqD ck.hu) os_eq (de_ix (de_var 2) de_int) de_str))) (fun _ _ _ _ _ ck => (de_cmp op_gt os_cmpI (de_ix (de_var 2) de_int) de_int))) t.z_len t.z_set) de_int))) dss_nil)
    (dss_one (ds_ret (de_cmp (op_eqD ck.hu) os_eq (de_ix (de_var 1) de_int) de_str))))))))
theorem h__law_odd (t : Txt K mg) : ∀ n, HasFn P w K mg base T (n + 2) "_law_odd" (g__law_odd n)
  | 0 => fn_no t.d__law_odd
  | n + 1 => fn_okD t.d__law_odd (show FnScope ["drum", "depth", "some", "row", "part"] ["drum", "depth"] (defScope (topS 63)) from ⟨rfl, rfl, rfl, by decide +kernel, rfl, by decide +kernel, by decide +kernel⟩) fun f cdv A outer s H E ck hp => by
    have hr__law_odd := h__law_odd t n
    unfold F__law_odd
    exact (dss_cons (ds_set 2 ck (de_lst (da_cons de_non (da_cons de_bl (da_cons de_bl (da_cons de_int (da_cons de_int (da_cons de_int (da_cons (de_un un_negA os_neg de_int) (da_cons (de_op op_pow os_pow de_int de_int) (da_cons (de_op op_addA os_add (de_op op_pow os_pow de_int de_int) de_int) (da_cons (de_un un_negA os_neg (de_op op_pow os_pow de_int de_int)) (da_cons de_str (da_cons de_str (da_cons de_str (da_cons de_str (da_cons de_str (da_cons (de_tup da_nil) (da_cons (de_lst da_nil) da_nil)))))))))))))))))))
    (dss_cons (ds_set 2 ck (de_op op_addA os_add (de_var 2) (de_lst (da_cons (de_tup (da_cons de_int (da_cons de_int (da_cons de_str (da_cons de_int da_nil))))) (da_cons (de_tup (da_cons (de_tup (da_cons de_int (da_cons de_int (da_cons de_str (da_cons de_int da_nil))))) da_nil)) (da_cons (de_tup (da_cons de_str (da_cons de_non (da_cons de_non da_nil)))) (da_cons (de_tup (da_cons de_str da_nil)) (da_cons (de_tup (da_cons de_int (da_cons de_int da_nil))) (da_cons de_str da_nil)))))))))
    (dss_cons (ds_if (dt_w (dw_or (dt_cmp (op_eqD ck.hu) os_eq (de_var 1) de_int) (dw_or1 (dt_cmp op_lt os_cmpI (de_call ck (h__law_roll t) (da_cons (de_var 0) (da_cons de_int da_nil)) (by omega)) de_int)))) (dss_one (ds_ret (de_call ck (h__law_some t) (da_cons (de_var 0) (da_cons (de_var 2) da_nil)) (by omega)))) dss_nil)
    (dss_cons (ds_setLc 3 ck (di_range1 (de_call ck (h__law_roll t) (da_cons (de_var 0) (da_cons de_int da_nil)) (by omega)) t.z_range) (blkOk_by (own := [("part", 4)]) (by kernel_rfl)) (fun _ _ _ _ _ => (dg_name 4 ck.nd)) (fun _ _ _ _ _ ck => dc_nil) (fun _ _ _ _ _ ck => (de_call ck hr__law_odd (da_cons (de_var 0) (da_cons (de_op op_subA os_sub (de_var 1) de_int) da_nil)) (by omega))))
    (dss_one (ds_ret (de_if (dt_cmp (op_eqD ck.hu) os_eq (de_call ck (h__law_roll t) (da_cons (de_var 0) (da_cons de_int da_nil)) (by omega)) de_int) (de_var 3) (de_bty call_tuple_of bs_tup t.z_tuple PyProof.Rows.boot_tuple (da_cons (de_var 3) da_nil)))))))))
theorem h__law_bent (t : Txt K mg) : ∀ n, HasFn P w K mg base T (n + 62) "_law_bent" (g__law_bent n)
  | 0 => fn_no t.d__law_bent
  | n + 1 => fn_okD t.d__law_bent (show FnScope ["drum", "value", "near", "at", "way"] ["drum", "value"] (defScope (topS 64)) from ⟨rfl, rfl, rfl, by decide +kernel, rfl, by decide +kernel, by decide +kernel⟩) fun f cdv A outer s H E ck hp => by
    have hr__law_bent := h__law_bent t n
    unfold F__law_bent
    exact (dss_cons (ds_if (dt_w (dw_or (dt_not (dt_val (de_isi .tuple t.z_isinstance PyProof.Rows.boot_isinstance t.z_tuple PyProof.Rows.boot_tuple (de_var 1)))) (dw_or (dt_cmp (op_eqD ck.hu) os_eq (de_var 1) (de_tup da_nil)) (dw_or1 (dt_cmp (op_eqD ck.hu) os_eq (de_call ck (h__law_roll t) (da_cons (de_var 0) (da_cons de_int da_nil)) (by omega)) de_int))))) (dss_cons (ds_set 2 ck (de_lst (da_cons (de_call ck (h__law_odd t 60) (da_cons (de_var 0) (da_cons de_int da_nil)) (by omega)) (da_cons (de_call ck (h__law_odd t 60) (da_cons (de_var 0) (da_cons de_int da_nil)) (by omega)) da_nil))))
    (dss_cons (ds_if (dt_val (de_isi .str t.z_isinstance PyProof.Rows.boot_isinstance t.z_str PyProof.Rows.boot_str (de_var 1))) (dss_one (ds_set 2 ck (de_op op_addA os_add (de_var 2) (de_lst (da_cons de_str (da_cons de_str (da_cons de_str (da_cons de_str (da_cons de_str (da_cons de_str (da_cons (de_sl (de_var 1) dp_none (dp_some (de_un un_negA os_neg de_int))) (da_cons (de_upper (de_var 1)) da_nil)))))))))))) (dss_one (ds_if (dt_val (de_isi .int t.z_isinstance PyProof.Rows.boot_isinstance t.z_int PyProof.Rows.boot_int (de_var 1))) (dss_one (ds_set 2 ck (de_op op_addA os_add (de_var 2) (de_lst (da_cons (de_op op_addA os_add (de_var 1) de_int) (da_cons (de_op op_subA os_sub (de_var 1) de_int) (da_cons (de_notT (de_var 1)) (da_cons (de_bty (call_str_int.or (SkE.call_str_str.or call_strB)) bs_str t.z_str PyProof.Rows.boot_str (da_cons (de_var 1) da_nil)) (da_cons (de_un un_negA os_neg (de_var 1)) (da_cons de_non da_nil)))))))))) dss_nil)))
    (dss_one (ds_ret (de_call ck (h__law_some t) (da_cons (de_var 0) (da_cons (de_var 2) da_nil)) (by omega)))))) dss_nil)
    (dss_cons (ds_par 3 4 ck (de_call ck (h__law_roll t) (da_cons (de_var 0) (da_cons (de_blt call_len bs_len t.z_len PySem.boot_len (da_cons (de_var 1) da_nil)) da_nil)) (by omega)) (de_call ck (h__law_roll t) (da_cons (de_var 0) (da_cons de_int da_nil)) (by omega)))
    (dss_cons (ds_if (dt_cmp (op_eqD ck.hu) os_eq (de_var 4) de_int) (dss_one (ds_ret (de_op op_addA os_add (de_sl (de_var 1) dp_none (dp_some (de_var 3))) (de_sl (de_var 1) (dp_some (de_op op_addA os_add (de_var 3) de_int)) dp_none)))) dss_nil)
    (dss_cons (ds_if (dt_cmp (op_eqD ck.hu) os_eq (de_var 4) de_int) (dss_one (ds_ret (de_op op_addA os_add (de_sl (de_var 1) dp_none (dp_some (de_op op_addA os_add (de_var 3) de_int))) (de_sl (de_var 1) (dp_some (de_var 3)) dp_none)))) dss_nil)
    (dss_cons (ds_if (dt_cmp (op_eqD ck.hu) os_eq (de_var 4) de_int) (dss_one (ds_ret (de_revA (de_var 1)))) dss_nil)
    (dss_cons (ds_if (dt_cmp (op_eqD ck.hu) os_eq (de_var 4) de_int) (dss_one (ds_ret (de_bty call_list_of bs_lst t.z_list PyProof.Rows.boot_list (da_cons (de_var 1) da_nil)))) dss_nil)
    (dss_one (ds_ret (de_op op_addA os_add (de_op op_addA os_add (de_sl (de_var 1) dp_none (dp_some (de_var 3))) (de_tup (da_cons (de_call ck hr__law_bent (da_cons (de_var 0) (da_cons (de_ix (de_var 1) (de_var 3)) da_nil)) (by omega)) da_nil))) (de_sl (de_var 1) (dp_some (de_op op_addA os_add (de_var 3) de_int)) dp_none))))))))))
theorem h__law_names (t : Txt K mg) : HasNm P w K mg base T 1 "_law_names" (NmR K mg) :=
  nm_ok t.d__law_names (show FnScope ["e", "some", "labels", "label", "good"] ["e"] (defScope (topS 65)) from ⟨rfl, rfl, rfl, by decide +kernel, rfl, by decide +kernel, by decide +kernel⟩) fun f cdv A outer s H E a0 D oe nm hot hz hrow hu => by
    obtain ⟨i, hl, hr⟩ := hrow
    have hfl : ∃ vs, oe.data = .fields vs := let ⟨_, vs, e, _⟩ := hot; ⟨vs, e⟩
    obtain ⟨A0, g0⟩ := t.o_InvalidChange
    obtain ⟨A1, g1⟩ := t.o_InvalidPiece
    obtain ⟨A2, g2⟩ := t.o_InvalidStatement
    obtain ⟨A3, g3⟩ := t.o_InvalidWorth
    obtain ⟨A4, g4⟩ := t.o_InvalidNumber
    obtain ⟨A5, g5⟩ := t.o_InvalidOrder
    obtain ⟨A6, g6⟩ := t.o_InvalidPrices
    obtain ⟨A7, g7⟩ := t.o_InvalidPairs
    obtain ⟨A8, g8⟩ := t.o_InvalidText
    obtain ⟨A9, g9⟩ := t.o_InvalidIndex
    obtain ⟨A10, g10⟩ := t.o_InvalidRow
    obtain ⟨A11, g11⟩ := t.o_InvalidTable
    obtain ⟨A12, g12⟩ := t.o_Unlike
    obtain ⟨A13, g13⟩ := t.o_Done
    obtain ⟨A14, g14⟩ := t.o_NothingToUndo
    obtain ⟨A15, g15⟩ := t.o_TooMany
    have nd : (["e", "some", "labels", "label", "good"] : List Str).Nodup := by decide +kernel
    refine ⟨F_names a0 (bOf i), ?_, fun μ => names_eval a0 i nm μ hl⟩
    unfold F_names
    exact (dss_cons (ds_setN 1 nd (de_lst (da_cons (de_isX hr.exc hz hfl List.mem_cons_self t.z_isinstance PyProof.Rows.boot_isinstance (pe_glob rfl g0 (v := .ref A0) rfl) (fun _ h => h) (hr.own 0 _ _ rfl g0) (de_var 0)) (da_cons (de_isX hr.exc hz hfl List.mem_cons_self t.z_isinstance PyProof.Rows.boot_isinstance (pe_glob rfl g1 (v := .ref A1) rfl) (fun _ h => h) (hr.own 1 _ _ rfl g1) (de_var 0)) (da_cons (de_isX hr.exc hz hfl List.mem_cons_self t.z_isinstance PyProof.Rows.boot_isinstance (pe_glob rfl g2 (v := .ref A2) rfl) (fun _ h => h) (hr.own 2 _ _ rfl g2) (de_var 0)) da_nil)))))
    (dss_cons (ds_setN 1 nd (de_op op_addA os_add (de_var 1) (de_lst (da_cons (de_isX hr.exc hz hfl List.mem_cons_self t.z_isinstance PyProof.Rows.boot_isinstance (pe_glob rfl g3 (v := .ref A3) rfl) (fun _ h => h) (hr.own 3 _ _ rfl g3) (de_var 0)) (da_cons (de_isX hr.exc hz hfl List.mem_cons_self t.z_isinstance PyProof.Rows.boot_isinstance (pe_glob rfl g4 (v := .ref A4) rfl) (fun _ h => h) (hr.own 4 _ _ rfl g4) (de_var 0)) (da_cons (de_isX hr.exc hz hfl List.mem_cons_self t.z_isinstance PyProof.Rows.boot_isinstance (pe_glob rfl g5 (v := .ref A5) rfl) (fun _ h => h) (hr.own 5 _ _ rfl g5) (de_var 0)) da_nil))))))
    (dss_cons (ds_setN 1 nd (de_op op_addA os_add (de_var 1) (de_lst (da_cons (de_isX hr.exc hz hfl List.mem_cons_self t.z_isinstance PyProof.Rows.boot_isinstance (pe_glob rfl g6 (v := .ref A6) rfl) (fun _ h => h) (hr.own 6 _ _ rfl g6) (de_var 0)) (da_cons (de_isX hr.exc hz hfl List.mem_cons_self t.z_isinstance PyProof.Rows.boot_isinstance (pe_glob rfl g7 (v := .ref A7) rfl) (fun _ h => h) (hr.own 7 _ _ rfl g7) (de_var 0)) (da_cons (de_isX hr.exc hz hfl List.mem_cons_self t.z_isinstance PyProof.Rows.boot_isinstance (pe_glob rfl g8 (v := .ref A8) rfl) (fun _ h => h) (hr.own 8 _ _ rfl g8) (de_var 0)) da_nil))))))
    (dss_cons (ds_setN 1 nd (de_op op_addA os_add (de_var 1) (de_lst (da_cons (de_isX hr.exc hz hfl List.mem_cons_self t.z_isinstance PyProof.Rows.boot_isinstance (pe_glob rfl g9 (v := .ref A9) rfl) (fun _ h => h) (hr.own 9 _ _ rfl g9) (de_var 0)) (da_cons (de_isX hr.exc hz hfl List.mem_cons_self t.z_isinstance PyProof.Rows.boot_isinstance (pe_glob rfl g10 (v := .ref A10) rfl) (fun _ h => h) (hr.own 10 _ _ rfl g10) (de_var 0)) (da_cons (de_isX hr.exc hz hfl List.mem_cons_self t.z_isinstance PyProof.Rows.boot_isinstance (pe_glob rfl g11 (v := .ref A11) rfl) (fun _ h => h) (hr.own 11 _ _ rfl g11) (de_var 0)) da_nil))))))
    (dss_cons (ds_setN 1 nd (de_op op_addA os_add (de_var 1) (de_lst (da_cons (de_isX hr.exc hz hfl List.mem_cons_self t.z_isinstance PyProof.Rows.boot_isinstance (pe_glob rfl g12 (v := .ref A12) rfl) (fun _ h => h) (hr.own 12 _ _ rfl g12) (de_var 0)) (da_cons (de_isX hr.exc hz hfl List.mem_cons_self t.z_isinstance PyProof.Rows.boot_isinstance (pe_glob rfl g13 (v := .ref A13) rfl) (fun _ h => h) (hr.own 13 _ _ rfl g13) (de_var 0)) (da_cons (de_isX hr.exc hz hfl List.mem_cons_self t.z_isinstance PyProof.Rows.boot_isinstance (pe_glob rfl g14 (v := .ref A14) rfl) (fun _ h => h) (hr.own 14 _ _ rfl g14) (de_var 0)) da_nil))))))
    (dss_cons (ds_setN 1 nd (de_op op_addA os_add (de_var 1) (de_lst (da_cons (de_isX hr.exc hz hfl List.mem_cons_self t.z_isinstance PyProof.Rows.boot_isinstance (pe_glob rfl g15 (v := .ref A15) rfl) (fun _ h => h) (hr.own 15 _ _ rfl g15) (de_var 0)) (da_cons (de_isX hr.exc hz hfl List.mem_cons_self t.z_isinstance PyProof.Rows.boot_isinstance (pe_bltn rfl t.z_ValueError PyProof.Rows.Boot.«ValueError» (v := .ty "ValueError") rfl) (fun _ h => h) hr.val (de_var 0)) da_nil)))))
    (dss_cons (ds_setN 2 nd de_str)
    (dss_one (ds_ret (de_join de_str (de_lcH (own := [("label", 3), ("good", 4)]) hot List.mem_cons_self nd (di_zipH (de_split (de_var 2) de_str) (de_var 1) t.z_zip) (blkOk_by (by kernel_rfl)) (fun _ _ _ _ _ => dg_tupH ⟨_, hot, List.mem_singleton.mpr rfl⟩ (dgs_cons (dg_name 3 nd) (dgs_cons (dg_name 4 nd) dgs_nil))) (fun _ _ _ _ _ => dc_one (dt_val (de_var 4))) (fun _ _ _ _ _ => de_var 3))))))))))))
theorem h_err (t : Txt K mg) : HasTry P w K mg base T 1 "_law_error" (nmC clsL) :=
  try_ok t.d__law_error (show FnScope ["call", "e"] ["call"] (defScope (topS 66)) from ⟨rfl, rfl, rfl, by decide +kernel, rfl, by decide +kernel, by decide +kernel⟩) ⟨_, _, _, _, _, _, _, _, _, _, _, _, _, rfl⟩ rfl rfl rfl rfl (h__law_names t) t.o_WalkError t.r_cls
theorem h__law_judged (t : Txt K mg) (l : LTxt K mg base T) : HasFn P w K mg base T 11 "_law_judged" g__law_judged :=
  fn_okL l.l__law_judged (show FnScope ["value", "good", "whole", "worth", "call"] ["value"] (defScope (topS 67)) from ⟨rfl, rfl, rfl, by decide +kernel, rfl, by decide +kernel, by decide +kernel⟩) fun f cdv A outer s H E ck hp la => by
    unfold F__law_judged
    exact (dss_cons (ds_par 1 2 ck (de_call ck (h__law_is_change t) (da_cons (de_var 0) da_nil)) (de_call ck (h__law_is_statement t) (da_cons (de_var 0) da_nil)))
    (dss_cons (ds_if (dt_w (dw_or (dt_cmp (op_neD ck.hu) os_ne (de_call ck (h_is_change t) (da_cons (de_var 0) da_nil)) (de_var 1)) (dw_or1 (dt_not (dt_val (de_isi .bool t.z_isinstance PyProof.Rows.boot_isinstance t.z_bool PyProof.Rows.boot_bool (de_call ck (h_is_change t) (da_cons (de_var 0) da_nil)))))))) (dss_one (ds_ret de_bl)) dss_nil)
    (dss_cons (ds_if (dt_w (dw_or (dt_cmp (op_neD ck.hu) os_ne (de_call ck (h_is_statement t) (da_cons (de_var 0) da_nil)) (de_var 2)) (dw_or1 (dt_not (dt_val (de_isi .bool t.z_isinstance PyProof.Rows.boot_isinstance t.z_bool PyProof.Rows.boot_bool (de_call ck (h_is_statement t) (da_cons (de_var 0) da_nil)))))))) (dss_one (ds_ret de_bl)) dss_nil)
    (dss_cons (ds_if (dt_w (dw_and (dt_not (dt_val (de_var 1))) (dw_and1 (dt_cmp (op_neD ck.hu) os_ne (de_lcW ck (da_cons (de_fnx t.d_fits) (da_cons (de_fnx t.d_changed) da_nil)) (blkOk_by (own := [("call", 4)]) (by kernel_rfl)) (fun _ _ _ _ _ => pg_name ck.nd rfl (by first | exact Or.inl rfl | exact Or.inr rfl) (by first | exact Or.inl rfl | exact Or.inr rfl)) (fun _ _ _ _ _ ck => (de_try (k := 7) (h_err t) la ck (fun _ _ _ _ _ _ _ ck => (de_callV (k := 7) 4 ck (held_cons (HasFn.mono (h_fits t) (by decide)) (held_cons (HasFn.mono (h_changed t) (by decide)) held_nil)) (da_cons (de_var 0) (da_cons de_int da_nil))))))) (de_op op_mulA os_mul (de_lst (da_cons de_str da_nil)) de_int))))) (dss_one (ds_ret de_bl)) dss_nil)
    (dss_cons (ds_if (dt_w (dw_and (dt_not (dt_val (de_var 2))) (dw_and1 (dt_cmp (op_neD ck.hu) os_ne (de_try (k := 8) (h_err t) la ck (fun _ _ _ _ _ _ _ ck => (de_call ck (h_meets t) (da_cons (de_var 0) (da_cons de_int da_nil))))) de_str)))) (dss_one (ds_ret de_bl)) dss_nil)
    (dss_cons (ds_for ck hp (di_seq (de_if (dt_val (de_var 1)) (de_tup (da_cons (de_un un_negA os_neg de_int) (da_cons de_int (da_cons de_int (da_cons (de_op op_pow os_pow de_int de_int) da_nil))))) (de_lst da_nil))) (dg_name 3 ck.nd) (dss_cons (ds_if (dt_w (dw_or (dt_cmp (op_neD ck.hu) os_ne (de_call ck (h_fits t) (da_cons (de_var 0) (da_cons (de_var 3) da_nil))) (de_notN (de_call ck (h__law_piece t) (da_cons (de_var 0) (da_cons (de_var 3) da_nil))))) (dw_or1 (dt_not (dt_val (de_isi .bool t.z_isinstance PyProof.Rows.boot_isinstance t.z_bool PyProof.Rows.boot_bool (de_call ck (h_fits t) (da_cons (de_var 0) (da_cons (de_var 3) da_nil))))))))) (dss_one (ds_ret de_bl)) dss_nil)
    (dss_one (ds_if (dt_cmp (op_neD ck.hu) os_ne (de_call ck (h_changed t) (da_cons (de_var 0) (da_cons (de_var 3) da_nil))) (de_call ck (h__law_changed t) (da_cons (de_var 0) (da_cons (de_var 3) da_nil)))) (dss_one (ds_ret de_bl)) dss_nil))))
    (dss_cons (ds_for ck hp (di_seq (de_if (dt_val (de_var 2)) (de_tup (da_cons (de_un un_negA os_neg de_int) (da_cons de_int (da_cons de_int da_nil)))) (de_lst da_nil))) (dg_name 3 ck.nd) (dss_one (ds_if (dt_cmp (op_neD ck.hu) os_ne (de_call ck (h_meets t) (da_cons (de_var 0) (da_cons (de_var 3) da_nil))) (de_or (de_cmp (op_eqD ck.hu) os_eq (de_blt call_len bs_len t.z_len PySem.boot_len (da_cons (de_ix (de_var 0) de_int) da_nil)) de_int) (de_one (de_call ck (h__law_has t) (da_cons (de_ix (de_ix (de_var 0) de_int) de_int) (da_cons (de_ix (de_ix (de_var 0) de_int) de_int) (da_cons (de_var 3) da_nil))))))) (dss_one (ds_ret de_bl)) dss_nil)))
    (dss_one (ds_ret de_bl)))))))))
theorem ok_law (t : Txt K mg) (l : LTxt K mg base T) {f fd} (tl : DefL K mg base T "law" (topS 68) ["script"] f fd) : FnOk P w K mg base (L2N.CX P w) 123 f fd ["script"] (spD ⟨K, mg, T⟩ g_law) :=
  fn_okF tl (show FnScope ["script", "cell", "drum", "one", "bent", "spoilt", "turn", "odd", "found", "up", "low", "some", "walks", "value", "walk"] ["script"] (defScope (topS 68)) from ⟨rfl, rfl, rfl, by decide +kernel, rfl, by decide +kernel, by decide +kernel⟩) fun f cdv A outer s H E ck hp la => by
    unfold F_law
    exact (dss_cons (ds_for ck hp (di_seq (de_sl (de_op op_addA os_add (de_lst (da_cons de_int da_nil)) (de_var 0)) dp_none (dp_some de_int))) (dg_name 1 ck.nd) (dss_cons (ds_set 2 ck (de_call ck (h__law_drum t) (da_cons (de_var 1) (da_cons de_int da_nil))))
    (dss_cons (ds_set 3 ck (de_call ck (h__law_statement t) (da_cons (de_var 2) (da_cons de_int da_nil))))
    (dss_cons (ds_if (dt_w (dw_or (dt_not (dt_val (de_call ck (h__law_judged t l) (da_cons (de_var 3) da_nil)))) (dw_or (dt_not (dt_val (de_call ck (h__law_judged t l) (da_cons (de_ix (de_var 3) de_int) da_nil)))) (dw_or1 (dt_not (dt_val (de_call ck (h__law_is_statement t) (da_cons (de_var 3) da_nil)))))))) (dss_one (ds_ret de_bl)) dss_nil)
    (dss_cons (ds_par 4 5 ck (de_var 3) (de_ix (de_var 3) de_int))
    (dss_cons (ds_for ck hp (di_range1 de_int t.z_range) (dg_name 6 ck.nd) (dss_cons (ds_set 4 ck (de_call ck (h__law_bent t 60) (da_cons (de_var 2) (da_cons (de_if (dt_cmp (op_eqD ck.hu) os_eq (de_op op_mod os_mod (de_bty (call_int1.or call_int_str) bs_int t.z_int PyProof.Rows.boot_int (da_cons (de_var 6) da_nil)) de_int) de_int) (de_var 3) (de_var 4)) da_nil))))
    (dss_cons (ds_set 5 ck (de_call ck (h__law_bent t 60) (da_cons (de_var 2) (da_cons (de_if (dt_cmp (op_eqD ck.hu) os_eq (de_op op_mod os_mod (de_bty (call_int1.or call_int_str) bs_int t.z_int PyProof.Rows.boot_int (da_cons (de_var 6) da_nil)) de_int) de_int) (de_ix (de_var 3) de_int) (de_var 5)) da_nil))))
    (dss_one (ds_if (dt_w (dw_or (dt_not (dt_val (de_call ck (h__law_judged t l) (da_cons (de_var 4) da_nil)))) (dw_or (dt_not (dt_val (de_call ck (h__law_judged t l) (da_cons (de_var 5) da_nil)))) (dw_or1 (dt_not (dt_val (de_call ck (h__law_judged t l) (da_cons (de_tup (da_cons (de_var 5) (da_cons (de_ix (de_var 3) de_int) da_nil))) da_nil)))))))) (dss_one (ds_ret de_bl)) dss_nil)))))
    (dss_cons (ds_if (dt_not (dt_val (de_call ck (h__law_judged t l) (da_cons (de_call ck (h__law_odd t 60) (da_cons (de_var 2) (da_cons de_int da_nil))) da_nil)))) (dss_one (ds_ret de_bl)) dss_nil)
    (dss_one (ds_for ck hp (di_seq (de_tup (da_cons de_non (da_cons de_bl (da_cons (de_op op_addA os_add (de_op op_pow os_pow de_int de_int) de_int) (da_cons (de_op op_subA os_sub (de_un un_negA os_neg (de_op op_pow os_pow de_int de_int)) de_int) (da_cons de_str da_nil))))))) (dg_name 7 ck.nd) (dss_cons (ds_set 8 ck (de_lstM (da_cons (de_try (k := 7) (h_err t) la ck (fun _ _ _ _ _ _ _ ck => (de_call ck (h_fits t) (da_cons (de_ix (de_var 3) de_int) (da_cons (de_var 7) da_nil))))) da_nil)))
    (dss_cons (ds_expr (de_app (de_var 8) (de_try (k := 7) (h_err t) la ck (fun _ _ _ _ _ _ _ ck => (de_call ck (h_changed t) (da_cons (de_ix (de_var 3) de_int) (da_cons (de_var 7) da_nil)))))))
    (dss_cons (ds_expr (de_app (de_var 8) (de_try (k := 8) (h_err t) la ck (fun _ _ _ _ _ _ _ ck => (de_call ck (h_meets t) (da_cons (de_var 3) (da_cons (de_var 7) da_nil)))))))
    (dss_one (ds_if (dt_cmp (op_neD ck.hu) os_ne (de_var 8) (de_op op_mulA os_mul (de_lst (da_cons de_str da_nil)) de_int)) (dss_one (ds_ret de_bl)) dss_nil))))))))))))))
    (dss_cons (ds_tgt (de_tup (da_cons (de_tup (da_cons de_int (da_cons de_int (da_cons de_str (da_cons de_int da_nil))))) (da_cons (de_tup (da_cons (de_un un_negA os_neg de_int) (da_cons (de_un un_negA os_neg de_int) (da_cons de_str (da_cons de_int da_nil))))) da_nil))) (dg_tup ck.calm (dgs_cons (dg_name 9 ck.nd) (dgs_cons (dg_name 10 ck.nd) dgs_nil))))
    (dss_cons (ds_set 11 ck (de_lstM (da_cons (de_tup (da_cons (de_var 9) da_nil)) (da_cons (de_tup (da_cons (de_var 10) (da_cons (de_var 9) da_nil))) (da_cons (de_tup (da_cons (de_var 9) (da_cons (de_var 10) da_nil))) (da_cons (de_tup (da_cons (de_var 9) (da_cons (de_var 9) da_nil))) (da_cons (de_tup (da_cons (de_tup (da_cons de_non (da_cons de_non (da_cons de_str (da_cons de_int da_nil))))) da_nil)) da_nil)))))))
    (dss_cons (ds_expr (de_app (de_var 11) (de_tup (da_cons (de_tup (da_cons de_non (da_cons de_int (da_cons de_str (da_cons de_int da_nil))))) (da_cons (de_tup (da_cons de_int (da_cons de_non (da_cons de_str (da_cons (de_un un_negA os_neg de_int) da_nil))))) da_nil)))))
    (dss_cons (ds_set 11 ck (de_catM (de_var 11) (de_lst (da_cons (de_tup (da_cons (de_tup (da_cons de_int (da_cons de_int (da_cons de_str (da_cons de_int da_nil))))) da_nil)) (da_cons (de_tup (da_cons (de_tup (da_cons de_int (da_cons de_int (da_cons de_str (da_cons de_int da_nil))))) da_nil)) (da_cons (de_tup (da_cons (de_tup (da_cons de_int (da_cons de_non (da_cons de_str (da_cons de_int da_nil))))) (da_cons (de_tup (da_cons de_int (da_cons de_int (da_cons de_str (da_cons de_int da_nil))))) da_nil))) (da_cons (de_tup da_nil) (da_cons (de_op op_mulA os_mul (de_tup (da_cons (de_var 9) da_nil)) de_int) da_nil))))))))
    (dss_cons (ds_expr (de_app (de_var 11) (de_tup (da_cons (de_var 9) (da_cons (de_tup (da_cons de_int (da_cons de_int (da_cons de_str (da_cons de_int da_nil))))) da_nil)))))
    (dss_cons (ds_frz 11 (ds_if (dt_cmp (op_neD ck.hu) os_ne (de_lc ck (di_seq (de_var 11)) (blkOk_by (own := [("value", 13)]) (by kernel_rfl)) (fun _ _ _ _ _ => (dg_name 13 ck.nd)) (fun _ _ _ _ _ ck => dc_nil) (fun _ _ _ _ _ ck => (de_call ck (h_is_change t) (da_cons (de_var 13) da_nil)))) (de_op op_addA os_add (de_lst (da_cons de_bl (da_cons de_bl (da_cons de_bl (da_cons de_bl (da_cons de_bl (da_cons de_bl da_nil))))))) (de_op op_mulA os_mul (de_lst (da_cons de_bl da_nil)) de_int))) (dss_one (ds_ret de_bl)) dss_nil))
    (dss_cons (ds_set 12 ck (de_lst (da_cons (de_tup (da_cons de_str (da_cons de_int (da_cons de_int da_nil)))) (da_cons (de_tup (da_cons de_str (da_cons de_int (da_cons de_int da_nil)))) (da_cons (de_tup (da_cons de_str da_nil)) (da_cons (de_tup (da_cons de_str da_nil)) (da_cons (de_tup (da_cons de_str da_nil)) (da_cons (de_tup (da_cons de_str (da_cons de_int (da_cons de_int da_nil)))) (da_cons (de_tup (da_cons de_str (da_cons de_int (da_cons de_int da_nil)))) da_nil)))))))))
    (dss_cons (ds_if (dt_cmp (op_neD ck.hu) os_ne (de_lc ck (di_seq (de_var 12)) (blkOk_by (own := [("walk", 14)]) (by kernel_rfl)) (fun _ _ _ _ _ => (dg_name 14 ck.nd)) (fun _ _ _ _ _ ck => dc_nil) (fun _ _ _ _ _ ck => (de_call ck (h_is_statement t) (da_cons (de_tup (da_cons (de_tup (da_cons (de_var 9) (da_cons (de_tup (da_cons de_int (da_cons de_int (da_cons de_str (da_cons (de_un un_negA os_neg de_int) da_nil))))) da_nil))) (da_cons (de_var 14) da_nil))) da_nil)))) (de_op op_addA os_add (de_lst (da_cons de_bl (da_cons de_bl (da_cons de_bl da_nil)))) (de_op op_mulA os_mul (de_lst (da_cons de_bl da_nil)) de_int))) (dss_one (ds_ret de_bl)) dss_nil)
    (dss_one (ds_ret (de_and (de_cmp (op_eqD ck.hu) os_eq (de_lc ck (di_seq (de_var 11)) (blkOk_by (own := [("value", 13)]) (by kernel_rfl)) (fun _ _ _ _ _ => (dg_name 13 ck.nd)) (fun _ _ _ _ _ ck => (dc_one (dt_not (dt_val (de_call ck (h__law_judged t l) (da_cons (de_var 13) da_nil)))))) (fun _ _ _ _ _ ck => (de_var 13))) (de_lst da_nil)) (de_one (de_call ck (h_is_statement t) (da_cons (de_tup (da_cons (de_ix (de_var 11) de_int) (da_cons (de_tup (da_cons de_str da_nil)) da_nil))) da_nil)))))))))))))))
end
end Wlk

set_option linter.all false
set_option Elab.async false
set_option maxRecDepth 100000
set_option maxHeartbeats 0
/-! The head (printed by gen.py). -/
namespace Hd
open PySem PySem.Spec PyProof.Rows L2 Mi L3 Mir Wlk
def D_is_whole : He.DefD := ⟨("is_whole", none), "is_whole", "is_whole", defArgs (topS 20), defBody (topS 20), defScope (topS 20), [], []⟩
def D_is_end : He.DefD := ⟨("is_end", none), "is_end", "is_end", defArgs (topS 21), defBody (topS 21), defScope (topS 21), [], []⟩
def D_are_ends : He.DefD := ⟨("are_ends", none), "are_ends", "are_ends", defArgs (topS 22), defBody (topS 22), defScope (topS 22), [], []⟩
def D_is_piece : He.DefD := ⟨("is_piece", none), "is_piece", "is_piece", defArgs (topS 23), defBody (topS 23), defScope (topS 23), [], []⟩
def D_are_apart : He.DefD := ⟨("are_apart", none), "are_apart", "are_apart", defArgs (topS 24), defBody (topS 24), defScope (topS 24), [], []⟩
def D_fits_change : He.DefD := ⟨("fits_change", none), "fits_change", "fits_change", defArgs (topS 25), defBody (topS 25), defScope (topS 25), [], []⟩
def D_need_change : He.DefD := ⟨("need_change", none), "need_change", "need_change", defArgs (topS 26), defBody (topS 26), defScope (topS 26), [], []⟩
def D_need_worth : He.DefD := ⟨("need_worth", none), "need_worth", "need_worth", defArgs (topS 27), defBody (topS 27), defScope (topS 27), [.int (-1000000000000000000000000000000)], []⟩
def D_has : He.DefD := ⟨("has", none), "has", "has", defArgs (topS 28), defBody (topS 28), defScope (topS 28), [], []⟩
def D_piece_of : He.DefD := ⟨("piece_of", none), "piece_of", "piece_of", defArgs (topS 29), defBody (topS 29), defScope (topS 29), [], []⟩
def D_made : He.DefD := ⟨("made", none), "made", "made", defArgs (topS 30), defBody (topS 30), defScope (topS 30), [], []⟩
def D_changed_by : He.DefD := ⟨("changed_by", none), "changed_by", "changed_by", defArgs (topS 31), defBody (topS 31), defScope (topS 31), [], []⟩
def D_is_change : He.DefD := ⟨("is_change", none), "is_change", "is_change", defArgs (topS 32), defBody (topS 32), defScope (topS 32), [], []⟩
def D_fits : He.DefD := ⟨("fits", none), "fits", "fits", defArgs (topS 33), defBody (topS 33), defScope (topS 33), [], []⟩
def D_changed : He.DefD := ⟨("changed", none), "changed", "changed", defArgs (topS 34), defBody (topS 34), defScope (topS 34), [], []⟩
def D_is_walk : He.DefD := ⟨("is_walk", none), "is_walk", "is_walk", defArgs (topS 37), defBody (topS 37), defScope (topS 37), [], []⟩
def D_one_way : He.DefD := ⟨("one_way", none), "one_way", "one_way", defArgs (topS 38), defBody (topS 38), defScope (topS 38), [], []⟩
def D_fits_statement : He.DefD := ⟨("fits_statement", none), "fits_statement", "fits_statement", defArgs (topS 39), defBody (topS 39), defScope (topS 39), [], []⟩
def D_need_statement : He.DefD := ⟨("need_statement", none), "need_statement", "need_statement", defArgs (topS 40), defBody (topS 40), defScope (topS 40), [], []⟩
def D_turned_end : He.DefD := ⟨("turned_end", none), "turned_end", "turned_end", defArgs (topS 41), defBody (topS 41), defScope (topS 41), [], []⟩
def D_turned : He.DefD := ⟨("turned", none), "turned", "turned", defArgs (topS 42), defBody (topS 42), defScope (topS 42), [], []⟩
def D_goes_down : He.DefD := ⟨("goes_down", none), "goes_down", "goes_down", defArgs (topS 43), defBody (topS 43), defScope (topS 43), [], []⟩
def D_risen : He.DefD := ⟨("risen", none), "risen", "risen", defArgs (topS 44), defBody (topS 44), defScope (topS 44), [], []⟩
def D_sign_of : He.DefD := ⟨("sign_of", none), "sign_of", "sign_of", defArgs (topS 45), defBody (topS 45), defScope (topS 45), [], []⟩
def D_in_walk : He.DefD := ⟨("in_walk", none), "in_walk", "in_walk", defArgs (topS 46), defBody (topS 46), defScope (topS 46), [], []⟩
def D_is_statement : He.DefD := ⟨("is_statement", none), "is_statement", "is_statement", defArgs (topS 47), defBody (topS 47), defScope (topS 47), [], []⟩
def D_meets : He.DefD := ⟨("meets", none), "meets", "meets", defArgs (topS 48), defBody (topS 48), defScope (topS 48), [], []⟩
def D__law_drum : He.DefD := ⟨("_law_drum", none), "_law_drum", "_law_drum", defArgs (topS 50), defBody (topS 50), defScope (topS 50), [], []⟩
def D__law_roll : He.DefD := ⟨("_law_roll", none), "_law_roll", "_law_roll", defArgs (topS 51), defBody (topS 51), defScope (topS 51), [], []⟩
def D__law_some : He.DefD := ⟨("_law_some", none), "_law_some", "_law_some", defArgs (topS 52), defBody (topS 52), defScope (topS 52), [], []⟩
def D__law_change : He.DefD := ⟨("_law_change", none), "_law_change", "_law_change", defArgs (topS 53), defBody (topS 53), defScope (topS 53), [], []⟩
def D__law_one_way : He.DefD := ⟨("_law_one_way", none), "_law_one_way", "_law_one_way", defArgs (topS 54), defBody (topS 54), defScope (topS 54), [], []⟩
def D__law_statement : He.DefD := ⟨("_law_statement", none), "_law_statement", "_law_statement", defArgs (topS 55), defBody (topS 55), defScope (topS 55), [], []⟩
def D__law_has : He.DefD := ⟨("_law_has", none), "_law_has", "_law_has", defArgs (topS 56), defBody (topS 56), defScope (topS 56), [], []⟩
def D__law_piece : He.DefD := ⟨("_law_piece", none), "_law_piece", "_law_piece", defArgs (topS 57), defBody (topS 57), defScope (topS 57), [], []⟩
def D__law_changed : He.DefD := ⟨("_law_changed", none), "_law_changed", "_law_changed", defArgs (topS 58), defBody (topS 58), defScope (topS 58), [], []⟩
def D__law_is_whole : He.DefD := ⟨("_law_is_whole", none), "_law_is_whole", "_law_is_whole", defArgs (topS 59), defBody (topS 59), defScope (topS 59), [], []⟩
def D__law_are_ends : He.DefD := ⟨("_law_are_ends", none), "_law_are_ends", "_law_are_ends", defArgs (topS 60), defBody (topS 60), defScope (topS 60), [], []⟩
def D__law_is_change : He.DefD := ⟨("_law_is_change", none), "_law_is_change", "_law_is_change", defArgs (topS 61), defBody (topS 61), defScope (topS 61), [], []⟩
def D__law_is_statement : He.DefD := ⟨("_law_is_statement", none), "_law_is_statement", "_law_is_statement", defArgs (topS 62), defBody (topS 62), defScope (topS 62), [], []⟩
def D__law_odd : He.DefD := ⟨("_law_odd", none), "_law_odd", "_law_odd", defArgs (topS 63), defBody (topS 63), defScope (topS 63), [], []⟩
def D__law_bent : He.DefD := ⟨("_law_bent", none), "_law_bent", "_law_bent", defArgs (topS 64), defBody (topS 64), defScope (topS 64), [], []⟩
def D__law_names : He.DefD := ⟨("_law_names", none), "_law_names", "_law_names", defArgs (topS 65), defBody (topS 65), defScope (topS 65), [], []⟩
def D__law_error : He.DefD := ⟨("_law_error", none), "_law_error", "_law_error", defArgs (topS 66), defBody (topS 66), defScope (topS 66), [], []⟩
def D__law_judged : He.DefD := ⟨("_law_judged", none), "_law_judged", "_law_judged", defArgs (topS 67), defBody (topS 67), defScope (topS 67), [], []⟩
def D_law : He.DefD := ⟨("law", none), "law", "law", defArgs (topS 68), defBody (topS 68), defScope (topS 68), [], []⟩
def fn : List He.DefD := ([D_is_whole, D_is_end, D_are_ends, D_is_piece, D_are_apart, D_fits_change, D_need_change, D_need_worth, D_has, D_piece_of, D_made, D_changed_by, D_is_change, D_fits, D_changed, D_is_walk, D_one_way, D_fits_statement, D_need_statement, D_turned_end] : List He.DefD) ++ ([D_turned, D_goes_down, D_risen, D_sign_of, D_in_walk, D_is_statement, D_meets, D__law_drum, D__law_roll, D__law_some, D__law_change, D__law_one_way, D__law_statement, D__law_has, D__law_piece, D__law_changed, D__law_is_whole, D__law_are_ends, D__law_is_change, D__law_is_statement] : List He.DefD) ++ ([D__law_odd, D__law_bent, D__law_names, D__law_error, D__law_judged, D_law] : List He.DefD)
def fa : List He.Fa := ([.glo "is_whole", .glo "is_end", .glo "are_ends", .glo "is_piece", .glo "are_apart", .glo "fits_change", .glo "need_change", .glo "need_worth", .glo "has", .glo "piece_of", .glo "made", .glo "changed_by", .glo "is_change", .glo "fits", .glo "changed", .glo "is_walk", .glo "one_way", .glo "fits_statement", .glo "need_statement", .glo "turned_end"] : List He.Fa) ++ ([.glo "turned", .glo "goes_down", .glo "risen", .glo "sign_of", .glo "in_walk", .glo "is_statement", .glo "meets", .glo "_law_drum", .glo "_law_roll", .glo "_law_some", .glo "_law_change", .glo "_law_one_way", .glo "_law_statement", .glo "_law_has", .glo "_law_piece", .glo "_law_changed", .glo "_law_is_whole", .glo "_law_are_ends", .glo "_law_is_change", .glo "_law_is_statement"] : List He.Fa) ++ ([.glo "_law_odd", .glo "_law_bent", .glo "_law_names", .glo "_law_error", .glo "_law_judged", .glo "law", .glo "InvalidChange", .glo "InvalidPiece", .glo "InvalidStatement", .glo "InvalidWorth", .glo "InvalidNumber", .glo "InvalidOrder", .glo "InvalidPrices", .glo "InvalidPairs", .glo "InvalidText", .glo "InvalidIndex", .glo "InvalidRow", .glo "InvalidTable", .glo "Unlike", .glo "Done"] : List He.Fa) ++ ([.glo "NothingToUndo", .glo "TooMany", .glo "WalkError", .glo "WALKS", .free "ValueError", .free "abs", .free "all", .free "bool", .free "enumerate", .free "int", .free "isinstance", .free "len", .free "list", .free "range", .free "set", .free "sorted", .free "str", .free "tuple", .free "zip", .int "FAR" (1000000000000000000000000000000)] : List He.Fa) ++ ([.exc "InvalidChange", .exc "InvalidStatement", .exc "InvalidWorth"] : List He.Fa)
def lamd : List Str := ["_law_judged", "law"]
def ex (K : PySem.W.Frag) : Bool := (noLists K && (apartB K lamd && (clsL.all (rowB K) && He.tupB K "WALKS" ((["up", "down", "first", "place"] : List Str).map He.Dv.str))))
def loose : List Str := (["WalkError", "InvalidChange", "InvalidPiece", "InvalidStatement", "InvalidWorth", "InvalidNumber", "InvalidOrder", "InvalidPrices", "InvalidPairs", "InvalidText", "InvalidIndex", "InvalidRow", "InvalidTable", "Unlike", "Done", "NothingToUndo", "TooMany", "FAR", "is_whole", "is_end"] : List Str) ++ (["are_ends", "is_piece", "are_apart", "fits_change", "need_change", "need_worth", "has", "piece_of", "made", "changed_by", "is_change", "fits", "changed", "WALKS", "is_walk", "one_way", "fits_statement", "need_statement", "turned_end", "turned"] : List Str) ++ (["goes_down", "risen", "sign_of", "in_walk", "is_statement", "meets", "_law_drum", "_law_roll", "_law_some", "_law_change", "_law_one_way", "_law_statement", "_law_has", "_law_piece", "_law_changed", "_law_is_whole", "_law_are_ends", "_law_is_change", "_law_is_statement", "_law_odd"] : List Str) ++ (["_law_bent", "_law_names", "_law_error", "_law_judged"] : List Str)
abbrev R : PySem.W.OpenRow := PySem.W.OpenLaw.row PySem.Challenge.rw_metagain_k01_changes_known
abbrev hk : PySem.W.Hook := He.hookX 4 fa fn [] [("_law_judged", none), ("law", none)] ex
def ob (s : PySem.W.SharedT) : He.AlX := He.obsX 4 fa fn [] [("_law_judged", none), ("law", none)] ex (HandSHeadRun.getT s)
theorem ob_eq (s : PySem.W.SharedT) : ob s = hk.obs s.abs := He.obsX_eq (HandSHeadRun.getT_eq s)
theorem run (w : World) : HandSHeadRun.RunEq R (PySem.W.view R.prog [68]) hk ob 9000 loose w := by
  intro os
  kernel_rfl
theorem clsL_own : ∀ x ∈ clsL, x ∈ ownCls := by decide +kernel
section
variable {K : PySem.W.Frag} {mg : Str → Option Value} {h : Heap} {w : World}
theorem txt (X : K.In h) (G : h.Ns mainGlobals mg) (c : He.SaysD fa fn K) (ha : apartB K lamd = true) (m1 : clsL.all (rowB K) = true) (mt0 : He.tupB K "WALKS" ((["up", "down", "first", "place"] : List Str).map He.Dv.str) = true) : Txt K mg := by
  have gx : ∀ y ∈ ownCls, mg y = some (.ref (He.ga K y)) := fun y hy => by
    simp only [ownCls, List.mem_cons, List.not_mem_nil, or_false] at hy
    rcases hy with rfl | rfl | rfl | rfl | rfl | rfl | rfl | rfl | rfl | rfl | rfl | rfl | rfl | rfl | rfl | rfl
    · exact (He.glo_ok X G (c.fact 46 (f := .glo "InvalidChange") rfl))
    · exact (He.glo_ok X G (c.fact 47 (f := .glo "InvalidPiece") rfl))
    · exact (He.glo_ok X G (c.fact 48 (f := .glo "InvalidStatement") rfl))
    · exact (He.glo_ok X G (c.fact 49 (f := .glo "InvalidWorth") rfl))
    · exact (He.glo_ok X G (c.fact 50 (f := .glo "InvalidNumber") rfl))
    · exact (He.glo_ok X G (c.fact 51 (f := .glo "InvalidOrder") rfl))
    · exact (He.glo_ok X G (c.fact 52 (f := .glo "InvalidPrices") rfl))
    · exact (He.glo_ok X G (c.fact 53 (f := .glo "InvalidPairs") rfl))
    · exact (He.glo_ok X G (c.fact 54 (f := .glo "InvalidText") rfl))
    · exact (He.glo_ok X G (c.fact 55 (f := .glo "InvalidIndex") rfl))
    · exact (He.glo_ok X G (c.fact 56 (f := .glo "InvalidRow") rfl))
    · exact (He.glo_ok X G (c.fact 57 (f := .glo "InvalidTable") rfl))
    · exact (He.glo_ok X G (c.fact 58 (f := .glo "Unlike") rfl))
    · exact (He.glo_ok X G (c.fact 59 (f := .glo "Done") rfl))
    · exact (He.glo_ok X G (c.fact 60 (f := .glo "NothingToUndo") rfl))
    · exact (He.glo_ok X G (c.fact 61 (f := .glo "TooMany") rfl))
  exact {
    d_is_whole := by
      obtain ⟨fd, F⟩ := c.def_ 0 (d := D_is_whole) rfl
      exact ⟨⟨_, fd, _, _, F, (He.glo_ok X G (c.fact 0 (f := .glo "is_whole") rfl)), F.bindsN fun _ _ _ _ _ _ us hl => match us, hl with | [_, _, _], _ => rfl⟩⟩
    d_is_end := by
      obtain ⟨fd, F⟩ := c.def_ 1 (d := D_is_end) rfl
      exact ⟨⟨_, fd, _, _, F, (He.glo_ok X G (c.fact 1 (f := .glo "is_end") rfl)), F.bindsN fun _ _ _ _ _ _ us hl => match us, hl with | [_], _ => rfl⟩⟩
    d_are_ends := by
      obtain ⟨fd, F⟩ := c.def_ 2 (d := D_are_ends) rfl
      exact ⟨⟨_, fd, _, _, F, (He.glo_ok X G (c.fact 2 (f := .glo "are_ends") rfl)), F.bindsN fun _ _ _ _ _ _ us hl => match us, hl with | [_, _], _ => rfl⟩⟩
    d_is_piece := by
      obtain ⟨fd, F⟩ := c.def_ 3 (d := D_is_piece) rfl
      exact ⟨⟨_, fd, _, _, F, (He.glo_ok X G (c.fact 3 (f := .glo "is_piece") rfl)), F.bindsN fun _ _ _ _ _ _ us hl => match us, hl with | [_], _ => rfl⟩⟩
    d_are_apart := by
      obtain ⟨fd, F⟩ := c.def_ 4 (d := D_are_apart) rfl
      exact ⟨⟨_, fd, _, _, F, (He.glo_ok X G (c.fact 4 (f := .glo "are_apart") rfl)), F.bindsN fun _ _ _ _ _ _ us hl => match us, hl with | [_, _], _ => rfl⟩⟩
    d_fits_change := by
      obtain ⟨fd, F⟩ := c.def_ 5 (d := D_fits_change) rfl
      exact ⟨⟨_, fd, _, _, F, (He.glo_ok X G (c.fact 5 (f := .glo "fits_change") rfl)), F.bindsN fun _ _ _ _ _ _ us hl => match us, hl with | [_], _ => rfl⟩⟩
    d_need_change := by
      obtain ⟨fd, F⟩ := c.def_ 6 (d := D_need_change) rfl
      exact ⟨⟨_, fd, _, _, F, (He.glo_ok X G (c.fact 6 (f := .glo "need_change") rfl)), F.bindsN fun _ _ _ _ _ _ us hl => match us, hl with | [_], _ => rfl⟩⟩
    d_need_worth := by
      obtain ⟨fd, F⟩ := c.def_ 7 (d := D_need_worth) rfl
      obtain ⟨ds, v, b⟩ := F.binds1 (ps := ["value", "low"]) 2 1 (by intro z; cases z) rfl (fun _ _ _ _ _ _ _ us its hl hi => match us, its, hl, hi with | [_, _], [_], _, _ => ⟨_, rfl, rfl⟩)
      cases v
      exact ⟨⟨_, fd, _, _, F, (He.glo_ok X G (c.fact 7 (f := .glo "need_worth") rfl)), b⟩⟩
    e_need_worth := by
      obtain ⟨fd, F⟩ := c.def_ 7 (d := D_need_worth) rfl
      obtain ⟨ds, v, b⟩ := F.binds1 (ps := ["value", "low"]) 1 0 (by intro z; cases z) rfl (fun _ _ _ _ _ _ _ us its hl hi => match us, its, hl, hi with | [_], [_], _, _ => ⟨_, rfl, rfl⟩)
      exact ⟨⟨_, fd, _, _, ds, F, (He.glo_ok X G (c.fact 7 (f := .glo "need_worth") rfl)), b, v, fun _ _ => (.cons (.int _) .nil)⟩⟩
    d_has := by
      obtain ⟨fd, F⟩ := c.def_ 8 (d := D_has) rfl
      exact ⟨⟨_, fd, _, _, F, (He.glo_ok X G (c.fact 8 (f := .glo "has") rfl)), F.bindsN fun _ _ _ _ _ _ us hl => match us, hl with | [_, _], _ => rfl⟩⟩
    d_piece_of := by
      obtain ⟨fd, F⟩ := c.def_ 9 (d := D_piece_of) rfl
      exact ⟨⟨_, fd, _, _, F, (He.glo_ok X G (c.fact 9 (f := .glo "piece_of") rfl)), F.bindsN fun _ _ _ _ _ _ us hl => match us, hl with | [_, _], _ => rfl⟩⟩
    d_made := by
      obtain ⟨fd, F⟩ := c.def_ 10 (d := D_made) rfl
      exact ⟨⟨_, fd, _, _, F, (He.glo_ok X G (c.fact 10 (f := .glo "made") rfl)), F.bindsN fun _ _ _ _ _ _ us hl => match us, hl with | [_, _], _ => rfl⟩⟩
    d_changed_by := by
      obtain ⟨fd, F⟩ := c.def_ 11 (d := D_changed_by) rfl
      exact ⟨⟨_, fd, _, _, F, (He.glo_ok X G (c.fact 11 (f := .glo "changed_by") rfl)), F.bindsN fun _ _ _ _ _ _ us hl => match us, hl with | [_, _], _ => rfl⟩⟩
    d_is_change := by
      obtain ⟨fd, F⟩ := c.def_ 12 (d := D_is_change) rfl
      exact ⟨⟨_, fd, _, _, F, (He.glo_ok X G (c.fact 12 (f := .glo "is_change") rfl)), F.bindsN fun _ _ _ _ _ _ us hl => match us, hl with | [_], _ => rfl⟩⟩
    d_fits := by
      obtain ⟨fd, F⟩ := c.def_ 13 (d := D_fits) rfl
      exact ⟨⟨_, fd, _, _, F, (He.glo_ok X G (c.fact 13 (f := .glo "fits") rfl)), F.bindsN fun _ _ _ _ _ _ us hl => match us, hl with | [_, _], _ => rfl⟩⟩
    d_changed := by
      obtain ⟨fd, F⟩ := c.def_ 14 (d := D_changed) rfl
      exact ⟨⟨_, fd, _, _, F, (He.glo_ok X G (c.fact 14 (f := .glo "changed") rfl)), F.bindsN fun _ _ _ _ _ _ us hl => match us, hl with | [_, _], _ => rfl⟩⟩
    d_is_walk := by
      obtain ⟨fd, F⟩ := c.def_ 15 (d := D_is_walk) rfl
      exact ⟨⟨_, fd, _, _, F, (He.glo_ok X G (c.fact 15 (f := .glo "is_walk") rfl)), F.bindsN fun _ _ _ _ _ _ us hl => match us, hl with | [_], _ => rfl⟩⟩
    d_one_way := by
      obtain ⟨fd, F⟩ := c.def_ 16 (d := D_one_way) rfl
      exact ⟨⟨_, fd, _, _, F, (He.glo_ok X G (c.fact 16 (f := .glo "one_way") rfl)), F.bindsN fun _ _ _ _ _ _ us hl => match us, hl with | [_], _ => rfl⟩⟩
    d_fits_statement := by
      obtain ⟨fd, F⟩ := c.def_ 17 (d := D_fits_statement) rfl
      exact ⟨⟨_, fd, _, _, F, (He.glo_ok X G (c.fact 17 (f := .glo "fits_statement") rfl)), F.bindsN fun _ _ _ _ _ _ us hl => match us, hl with | [_], _ => rfl⟩⟩
    d_need_statement := by
      obtain ⟨fd, F⟩ := c.def_ 18 (d := D_need_statement) rfl
      exact ⟨⟨_, fd, _, _, F, (He.glo_ok X G (c.fact 18 (f := .glo "need_statement") rfl)), F.bindsN fun _ _ _ _ _ _ us hl => match us, hl with | [_], _ => rfl⟩⟩
    d_turned_end := by
      obtain ⟨fd, F⟩ := c.def_ 19 (d := D_turned_end) rfl
      exact ⟨⟨_, fd, _, _, F, (He.glo_ok X G (c.fact 19 (f := .glo "turned_end") rfl)), F.bindsN fun _ _ _ _ _ _ us hl => match us, hl with | [_], _ => rfl⟩⟩
    d_turned := by
      obtain ⟨fd, F⟩ := c.def_ 20 (d := D_turned) rfl
      exact ⟨⟨_, fd, _, _, F, (He.glo_ok X G (c.fact 20 (f := .glo "turned") rfl)), F.bindsN fun _ _ _ _ _ _ us hl => match us, hl with | [_], _ => rfl⟩⟩
    d_goes_down := by
      obtain ⟨fd, F⟩ := c.def_ 21 (d := D_goes_down) rfl
      exact ⟨⟨_, fd, _, _, F, (He.glo_ok X G (c.fact 21 (f := .glo "goes_down") rfl)), F.bindsN fun _ _ _ _ _ _ us hl => match us, hl with | [_], _ => rfl⟩⟩
    d_risen := by
      obtain ⟨fd, F⟩ := c.def_ 22 (d := D_risen) rfl
      exact ⟨⟨_, fd, _, _, F, (He.glo_ok X G (c.fact 22 (f := .glo "risen") rfl)), F.bindsN fun _ _ _ _ _ _ us hl => match us, hl with | [_], _ => rfl⟩⟩
    d_sign_of := by
      obtain ⟨fd, F⟩ := c.def_ 23 (d := D_sign_of) rfl
      exact ⟨⟨_, fd, _, _, F, (He.glo_ok X G (c.fact 23 (f := .glo "sign_of") rfl)), F.bindsN fun _ _ _ _ _ _ us hl => match us, hl with | [_], _ => rfl⟩⟩
    d_in_walk := by
      obtain ⟨fd, F⟩ := c.def_ 24 (d := D_in_walk) rfl
      exact ⟨⟨_, fd, _, _, F, (He.glo_ok X G (c.fact 24 (f := .glo "in_walk") rfl)), F.bindsN fun _ _ _ _ _ _ us hl => match us, hl with | [_, _], _ => rfl⟩⟩
    d_is_statement := by
      obtain ⟨fd, F⟩ := c.def_ 25 (d := D_is_statement) rfl
      exact ⟨⟨_, fd, _, _, F, (He.glo_ok X G (c.fact 25 (f := .glo "is_statement") rfl)), F.bindsN fun _ _ _ _ _ _ us hl => match us, hl with | [_], _ => rfl⟩⟩
    d_meets := by
      obtain ⟨fd, F⟩ := c.def_ 26 (d := D_meets) rfl
      exact ⟨⟨_, fd, _, _, F, (He.glo_ok X G (c.fact 26 (f := .glo "meets") rfl)), F.bindsN fun _ _ _ _ _ _ us hl => match us, hl with | [_, _], _ => rfl⟩⟩
    d__law_drum := by
      obtain ⟨fd, F⟩ := c.def_ 27 (d := D__law_drum) rfl
      exact ⟨⟨_, fd, _, _, F, (He.glo_ok X G (c.fact 27 (f := .glo "_law_drum") rfl)), F.bindsN fun _ _ _ _ _ _ us hl => match us, hl with | [_, _], _ => rfl⟩⟩
    d__law_roll := by
      obtain ⟨fd, F⟩ := c.def_ 28 (d := D__law_roll) rfl
      exact ⟨⟨_, fd, _, _, F, (He.glo_ok X G (c.fact 28 (f := .glo "_law_roll") rfl)), F.bindsN fun _ _ _ _ _ _ us hl => match us, hl with | [_, _], _ => rfl⟩⟩
    d__law_some := by
      obtain ⟨fd, F⟩ := c.def_ 29 (d := D__law_some) rfl
      exact ⟨⟨_, fd, _, _, F, (He.glo_ok X G (c.fact 29 (f := .glo "_law_some") rfl)), F.bindsN fun _ _ _ _ _ _ us hl => match us, hl with | [_, _], _ => rfl⟩⟩
    d__law_change := by
      obtain ⟨fd, F⟩ := c.def_ 30 (d := D__law_change) rfl
      exact ⟨⟨_, fd, _, _, F, (He.glo_ok X G (c.fact 30 (f := .glo "_law_change") rfl)), F.bindsN fun _ _ _ _ _ _ us hl => match us, hl with | [_, _], _ => rfl⟩⟩
    d__law_one_way := by
      obtain ⟨fd, F⟩ := c.def_ 31 (d := D__law_one_way) rfl
      exact ⟨⟨_, fd, _, _, F, (He.glo_ok X G (c.fact 31 (f := .glo "_law_one_way") rfl)), F.bindsN fun _ _ _ _ _ _ us hl => match us, hl with | [_], _ => rfl⟩⟩
    d__law_statement := by
      obtain ⟨fd, F⟩ := c.def_ 32 (d := D__law_statement) rfl
      exact ⟨⟨_, fd, _, _, F, (He.glo_ok X G (c.fact 32 (f := .glo "_law_statement") rfl)), F.bindsN fun _ _ _ _ _ _ us hl => match us, hl with | [_, _], _ => rfl⟩⟩
    d__law_has := by
      obtain ⟨fd, F⟩ := c.def_ 33 (d := D__law_has) rfl
      exact ⟨⟨_, fd, _, _, F, (He.glo_ok X G (c.fact 33 (f := .glo "_law_has") rfl)), F.bindsN fun _ _ _ _ _ _ us hl => match us, hl with | [_, _, _], _ => rfl⟩⟩
    d__law_piece := by
      obtain ⟨fd, F⟩ := c.def_ 34 (d := D__law_piece) rfl
      exact ⟨⟨_, fd, _, _, F, (He.glo_ok X G (c.fact 34 (f := .glo "_law_piece") rfl)), F.bindsN fun _ _ _ _ _ _ us hl => match us, hl with | [_, _], _ => rfl⟩⟩
    d__law_changed := by
      obtain ⟨fd, F⟩ := c.def_ 35 (d := D__law_changed) rfl
      exact ⟨⟨_, fd, _, _, F, (He.glo_ok X G (c.fact 35 (f := .glo "_law_changed") rfl)), F.bindsN fun _ _ _ _ _ _ us hl => match us, hl with | [_, _], _ => rfl⟩⟩
    d__law_is_whole := by
      obtain ⟨fd, F⟩ := c.def_ 36 (d := D__law_is_whole) rfl
      exact ⟨⟨_, fd, _, _, F, (He.glo_ok X G (c.fact 36 (f := .glo "_law_is_whole") rfl)), F.bindsN fun _ _ _ _ _ _ us hl => match us, hl with | [_, _, _], _ => rfl⟩⟩
    d__law_are_ends := by
      obtain ⟨fd, F⟩ := c.def_ 37 (d := D__law_are_ends) rfl
      exact ⟨⟨_, fd, _, _, F, (He.glo_ok X G (c.fact 37 (f := .glo "_law_are_ends") rfl)), F.bindsN fun _ _ _ _ _ _ us hl => match us, hl with | [_, _], _ => rfl⟩⟩
    d__law_is_change := by
      obtain ⟨fd, F⟩ := c.def_ 38 (d := D__law_is_change) rfl
      exact ⟨⟨_, fd, _, _, F, (He.glo_ok X G (c.fact 38 (f := .glo "_law_is_change") rfl)), F.bindsN fun _ _ _ _ _ _ us hl => match us, hl with | [_], _ => rfl⟩⟩
    d__law_is_statement := by
      obtain ⟨fd, F⟩ := c.def_ 39 (d := D__law_is_statement) rfl
      exact ⟨⟨_, fd, _, _, F, (He.glo_ok X G (c.fact 39 (f := .glo "_law_is_statement") rfl)), F.bindsN fun _ _ _ _ _ _ us hl => match us, hl with | [_], _ => rfl⟩⟩
    d__law_odd := by
      obtain ⟨fd, F⟩ := c.def_ 40 (d := D__law_odd) rfl
      exact ⟨⟨_, fd, _, _, F, (He.glo_ok X G (c.fact 40 (f := .glo "_law_odd") rfl)), F.bindsN fun _ _ _ _ _ _ us hl => match us, hl with | [_, _], _ => rfl⟩⟩
    d__law_bent := by
      obtain ⟨fd, F⟩ := c.def_ 41 (d := D__law_bent) rfl
      exact ⟨⟨_, fd, _, _, F, (He.glo_ok X G (c.fact 41 (f := .glo "_law_bent") rfl)), F.bindsN fun _ _ _ _ _ _ us hl => match us, hl with | [_, _], _ => rfl⟩⟩
    d__law_names := by
      obtain ⟨fd, F⟩ := c.def_ 42 (d := D__law_names) rfl
      exact ⟨⟨_, fd, _, _, F, (He.glo_ok X G (c.fact 42 (f := .glo "_law_names") rfl)), F.bindsN fun _ _ _ _ _ _ us hl => match us, hl with | [_], _ => rfl⟩⟩
    d__law_error := by
      obtain ⟨fd, F⟩ := c.def_ 43 (d := D__law_error) rfl
      exact ⟨⟨_, fd, _, _, F, (He.glo_ok X G (c.fact 43 (f := .glo "_law_error") rfl)), F.bindsN fun _ _ _ _ _ _ us hl => match us, hl with | [_], _ => rfl⟩⟩
    o_InvalidChange := ⟨_, (He.glo_ok X G (c.fact 46 (f := .glo "InvalidChange") rfl))⟩
    o_InvalidPiece := ⟨_, (He.glo_ok X G (c.fact 47 (f := .glo "InvalidPiece") rfl))⟩
    o_InvalidStatement := ⟨_, (He.glo_ok X G (c.fact 48 (f := .glo "InvalidStatement") rfl))⟩
    o_InvalidWorth := ⟨_, (He.glo_ok X G (c.fact 49 (f := .glo "InvalidWorth") rfl))⟩
    o_InvalidNumber := ⟨_, (He.glo_ok X G (c.fact 50 (f := .glo "InvalidNumber") rfl))⟩
    o_InvalidOrder := ⟨_, (He.glo_ok X G (c.fact 51 (f := .glo "InvalidOrder") rfl))⟩
    o_InvalidPrices := ⟨_, (He.glo_ok X G (c.fact 52 (f := .glo "InvalidPrices") rfl))⟩
    o_InvalidPairs := ⟨_, (He.glo_ok X G (c.fact 53 (f := .glo "InvalidPairs") rfl))⟩
    o_InvalidText := ⟨_, (He.glo_ok X G (c.fact 54 (f := .glo "InvalidText") rfl))⟩
    o_InvalidIndex := ⟨_, (He.glo_ok X G (c.fact 55 (f := .glo "InvalidIndex") rfl))⟩
    o_InvalidRow := ⟨_, (He.glo_ok X G (c.fact 56 (f := .glo "InvalidRow") rfl))⟩
    o_InvalidTable := ⟨_, (He.glo_ok X G (c.fact 57 (f := .glo "InvalidTable") rfl))⟩
    o_Unlike := ⟨_, (He.glo_ok X G (c.fact 58 (f := .glo "Unlike") rfl))⟩
    o_Done := ⟨_, (He.glo_ok X G (c.fact 59 (f := .glo "Done") rfl))⟩
    o_NothingToUndo := ⟨_, (He.glo_ok X G (c.fact 60 (f := .glo "NothingToUndo") rfl))⟩
    o_TooMany := ⟨_, (He.glo_ok X G (c.fact 61 (f := .glo "TooMany") rfl))⟩
    o_WalkError := ⟨_, (He.glo_ok X G (c.fact 62 (f := .glo "WalkError") rfl))⟩
    r_cls := fun x hx => rowB_ok (List.all_eq_true.mp m1 x hx) (gx x (clsL_own x hx)) (He.glo_ok X G (c.fact 62 (f := .glo "WalkError") rfl)) gx
    z_ValueError := He.free_ok X G (c.fact 64 (f := .free "ValueError") rfl)
    z_abs := He.free_ok X G (c.fact 65 (f := .free "abs") rfl)
    z_all := He.free_ok X G (c.fact 66 (f := .free "all") rfl)
    z_bool := He.free_ok X G (c.fact 67 (f := .free "bool") rfl)
    z_enumerate := He.free_ok X G (c.fact 68 (f := .free "enumerate") rfl)
    z_int := He.free_ok X G (c.fact 69 (f := .free "int") rfl)
    z_isinstance := He.free_ok X G (c.fact 70 (f := .free "isinstance") rfl)
    z_len := He.free_ok X G (c.fact 71 (f := .free "len") rfl)
    z_list := He.free_ok X G (c.fact 72 (f := .free "list") rfl)
    z_range := He.free_ok X G (c.fact 73 (f := .free "range") rfl)
    z_set := He.free_ok X G (c.fact 74 (f := .free "set") rfl)
    z_sorted := He.free_ok X G (c.fact 75 (f := .free "sorted") rfl)
    z_str := He.free_ok X G (c.fact 76 (f := .free "str") rfl)
    z_tuple := He.free_ok X G (c.fact 77 (f := .free "tuple") rfl)
    z_zip := He.free_ok X G (c.fact 78 (f := .free "zip") rfl)
    c_FAR := He.int_ok X G (c.fact 79 (f := .int "FAR" (1000000000000000000000000000000)) rfl)
    c_WALKS := gtup_ok (ys := ["up", "down", "first", "place"]) mt0 (He.glo_ok X G (c.fact 63 (f := .glo "WALKS") rfl))
    x_InvalidChange := ownEx_ok (c.fact 80 (f := .exc "InvalidChange") rfl) (He.glo_ok X G (c.fact 46 (f := .glo "InvalidChange") rfl))
    x_InvalidStatement := ownEx_ok (c.fact 81 (f := .exc "InvalidStatement") rfl) (He.glo_ok X G (c.fact 48 (f := .glo "InvalidStatement") rfl))
    x_InvalidWorth := ownEx_ok (c.fact 82 (f := .exc "InvalidWorth") rfl) (He.glo_ok X G (c.fact 49 (f := .glo "InvalidWorth") rfl)) }
theorem at_law {mg : Str → Option Value} {fa0 : Addr} (X : K.In h) (G : h.Ns mainGlobals mg) (c : He.SaysX fa fn [] [("_law_judged", none), ("law", none)] ex w h K) (hfa : mg "law" = some (.ref fa0))
    (pure : ∀ ns : List Int, ns.length ≤ 63 → (∀ z ∈ ns, Builtin.Int.intBits z ≤ 1048576) → g_law [.d (.list (ns.map .int))] [] = .ok (.d (.bool true)) []) : LamX.LawAtS PySem.Challenge.rw_metagain_k01_changes_known w K (L2N.CX PySem.Challenge.rw_metagain_k01_changes_known.prog w) 123 63 "script" mg fa0 h := by
  have cd := c.t.d
  have hm := c.more
  unfold ex at hm
  simp only [Bool.and_eq_true] at hm
  obtain ⟨hn, ha, m1, mt0⟩ := hm
  obtain rfl : fa0 = He.ga K "law" := by
    have z := hfa.symm.trans (He.glo_ok X G (cd.fact 45 (f := .glo "law") rfl))
    injection z with z
    injection z
  obtain ⟨fd, F⟩ := cd.def_ 45 (d := D_law) rfl
  have tt := txt X G cd ha m1 mt0
  refine law_atL (ds := lamd) (st := topS 68) (kws := []) X G c (He.glo_ok X G (cd.fact 45 (f := .glo "law") rfl)) hfa F (fun _ _ _ _ _ _ us hl => match us, hl with | [_], _ => rfl) hn ha (fun base LC hb => ?_) pure
  exact ok_law tt (by exact {
    l_none := trivial
    l__law_judged := by
      obtain ⟨fd, F⟩ := cd.def_ 44 (d := D__law_judged) rfl
      exact ⟨_, fd, (LC "_law_judged" (by decide)).defL (He.glo_ok X G (cd.fact 44 (f := .glo "_law_judged") rfl)) F (F.bindsN fun _ _ _ _ _ _ us hl => match us, hl with | [_], _ => rfl)⟩ }) ((LC "law" (by decide)).defL (He.glo_ok X G (cd.fact 45 (f := .glo "law") rfl)) F hb)
end
end Hd

set_option linter.all false
set_option Elab.async false
set_option maxRecDepth 100000
/-! The mirror's words, run by simp. -/
namespace Mi
open PySem
section
variable (ρ : Env) (μ : Sto)
@[simp] theorem x_eVar (i : Nat) : eVar i ρ μ = (match ρ[i]? with | some (some w) => .ok w μ | _ => .no) := rfl
@[simp] theorem x_eC (d : D) : eC d ρ μ = .ok (.d d) μ := rfl
@[simp] theorem x_eInt (i : Int) : eInt i ρ μ = .ok (.d (.int i)) μ := rfl
@[simp] theorem x_eStr (i : Str) : eStr i ρ μ = .ok (.d (.str i)) μ := rfl
@[simp] theorem x_eBl (i : Bool) : eBl i ρ μ = .ok (.d (.bool i)) μ := rfl
@[simp] theorem x_eNon : eNon ρ μ = .ok (.d .none) μ := rfl
@[simp] theorem x_eYes : eYes ρ μ = .ok (.d (.bool true)) μ := rfl
@[simp] theorem x_eFn (x : Str) : eFn x ρ μ = .ok (.f x) μ := rfl
@[simp] theorem x_eOp (op : D → D → Option D) (f g : EF) : eOp op f g ρ μ = (f ρ μ).bind fun a μ1 => (g ρ μ1).bind fun b μ2 => ofO ((view μ2 a).bind fun x => (view μ2 b).bind fun y => (op x y).map W.d) μ2 := rfl
@[simp] theorem x_eUn (op : D → Option D) (f : EF) : eUn op f ρ μ = (f ρ μ).bind fun a μ1 => ofO ((view μ1 a).bind fun x => (op x).map W.d) μ1 := rfl
@[simp] theorem x_aNil : aNil ρ μ = .ok [] μ := rfl
@[simp] theorem x_aCons (f : EF) (r : AF) : aCons f r ρ μ = (f ρ μ).bind fun a μ1 => (r ρ μ1).bind fun as μ2 => .ok (a :: as) μ2 := rfl
@[simp] theorem x_eTup (a : AF) : eTup a ρ μ = (a ρ μ).bind fun ws μ1 => ofO ((asDs ws).map fun ds => W.d (.tuple ds)) μ1 := rfl
@[simp] theorem x_eLst (a : AF) : eLst a ρ μ = (a ρ μ).bind fun ws μ1 => ofO ((asDs ws).map fun ds => W.d (.list ds)) μ1 := rfl
@[simp] theorem x_eLstM (a : AF) : eLstM a ρ μ = (a ρ μ).bind fun ws μ1 => (match asDs ws with | some ds => .ok (.m μ1.length) (μ1 ++ [some (.lst ds)]) | none => .no) := rfl
@[simp] theorem x_eCall (g : GF) (a : AF) : eCall g a ρ μ = (a ρ μ).bind g := rfl
@[simp] theorem x_eBlt (h : List D → Option D) (a : AF) : eBlt h a ρ μ = (a ρ μ).bind fun ws μ1 => ofO ((views μ1 ws).bind fun ds => (h ds).map W.d) μ1 := rfl
@[simp] theorem x_eAnd (f g : EF) : eAnd f g ρ μ = (f ρ μ).test fun b μ1 => if b = true then g ρ μ1 else .ok (.d (.bool false)) μ1 := rfl
@[simp] theorem x_eOr (f g : EF) : eOr f g ρ μ = (f ρ μ).test fun b μ1 => if b = true then .ok (.d (.bool true)) μ1 else g ρ μ1 := rfl
@[simp] theorem x_eNot (f : EF) : eNot f ρ μ = (f ρ μ).test fun b μ1 => .ok (.d (.bool (!b))) μ1 := rfl
@[simp] theorem x_eIf (c f g : EF) : eIf c f g ρ μ = (c ρ μ).test fun b μ1 => if b = true then f ρ μ1 else g ρ μ1 := rfl
@[simp] theorem x_eChain (op op' : D → D → Option D) (f g h : EF) : eChain op op' f g h ρ μ = (f ρ μ).bind fun a μ1 => (g ρ μ1).bind fun b μ2 =>
  (ofO ((view μ2 a).bind fun x => (view μ2 b).bind fun y => (op x y).map W.d) μ2).test fun k μ3 => if k = true then
    (h ρ μ3).bind fun c μ4 => ofO ((view μ4 b).bind fun x => (view μ4 c).bind fun y => (op' x y).map W.d) μ4
  else .ok (.d (.bool false)) μ3 := rfl
@[simp] theorem x_eIsN (f : EF) : eIsN f ρ μ = (f ρ μ).bind fun a μ1 => .ok (.d (.bool (isNonW a))) μ1 := rfl
@[simp] theorem x_eNotN (f : EF) : eNotN f ρ μ = (f ρ μ).bind fun a μ1 => .ok (.d (.bool (!isNonW a))) μ1 := rfl
@[simp] theorem x_part0 : ePart none ρ μ = .ok none μ := rfl
@[simp] theorem x_part1 (f : EF) : ePart (some f) ρ μ = (f ρ μ).bind fun w μ1 => (match w with | .d (.int i) => .ok (some i) μ1 | _ => .no) := rfl
@[simp] theorem x_eSl (cut : D → Option Int → Option Int → Option D) (f : EF) (lo hi : Option EF) : eSl cut f lo hi ρ μ = (f ρ μ).bind fun a μ1 =>
  (ePart lo ρ μ1).bind fun l μ2 => (ePart hi ρ μ2).bind fun h μ3 => ofO ((view μ3 a).bind fun x => (cut x l h).map W.d) μ3 := rfl
@[simp] theorem x_eNotT (f : EF) : eNotT f ρ μ = (f ρ μ).bind fun a μ1 => ofO ((view μ1 a).bind fun d => ((truD d).map fun b => PyData.bool (!b)).map W.d) μ1 := rfl
@[simp] theorem x_eIsi (t : Ty) (f : EF) : eIsi t f ρ μ = (f ρ μ).bind fun a μ1 => ofO ((view μ1 a).bind fun d => some (W.d (.bool (isTy t d)))) μ1 := rfl
@[simp] theorem x_eM0 (op : Str → Option D) (f : EF) : eM0 op f ρ μ = (f ρ μ).bind fun w μ1 => (match w with | .d (.str a) => ofO ((op a).map W.d) μ1 | _ => .no) := rfl
@[simp] theorem x_eM1 (op : Str → D → Option D) (f g : EF) : eM1 op f g ρ μ = (f ρ μ).bind fun w μ1 => (match w with
  | .d (.str a) => (g ρ μ1).bind fun u μ2 => ofO ((view μ2 u).bind fun y => (op a y).map W.d) μ2
  | _ => .no) := rfl
@[simp] theorem x_eTry (nm : Exn → Option Str) (f : EF) : eTry nm f ρ μ = (match f ρ μ with | .ok _ μ1 => .ok (.d (.str "")) μ1 | .er x μ1 => ofO ((nm x).map fun s => W.d (.str s)) μ1 | .no => .no) := rfl
@[simp] theorem x_eLc (vs : List Nat) (t : TF) (it : IF) (c e : EF) : eLc vs t it c e ρ μ = (it ρ μ).bind fun l μ1 => lcL t c e (wipeE ρ vs) l [] μ1 := rfl
@[simp] theorem x_eApp (f e : EF) : eApp f e ρ μ = (f ρ μ).bind fun w μ1 => (match w with
  | .m k => (match mlist μ1 k with
    | some _ => (e ρ μ1).bind fun u μ2 => (match u, mlist μ2 k with
      | .d d, some l => if l.length < LIM then .ok (.d .none) (μ2.set k (some (.lst (l ++ [d])))) else .no
      | _, _ => .no)
    | none => .no)
  | _ => .no) := rfl
@[simp] theorem x_iSeq (f : EF) : iSeq f ρ μ = (f ρ μ).bind fun w μ1 => (match w with | .d d => ofO (items d) μ1 | _ => .no) := rfl
@[simp] theorem x_iRange1 (f : EF) : iRange1 f ρ μ = (f ρ μ).bind fun w μ1 => (match w with | .d (.int b) => if -(LIM : Int) ≤ b ∧ b ≤ LIM then .ok (rangeD 0 b) μ1 else .no | _ => .no) := rfl
@[simp] theorem x_iRange2 (f g : EF) : iRange2 f g ρ μ = (f ρ μ).bind fun w μ1 => (g ρ μ1).bind fun u μ2 => (match w, u with
  | .d (.int a), .d (.int b) => if -(LIM : Int) ≤ a ∧ a ≤ LIM ∧ -(LIM : Int) ≤ b ∧ b ≤ LIM then .ok (rangeD a b) μ2 else .no
  | _, _ => .no) := rfl
@[simp] theorem x_iEnumD (f : EF) : iEnumD f ρ μ = (f ρ μ).bind fun w μ1 => (match w with
  | .d (.tuple l) => if l.length ≤ LIM then .ok (enumD l) μ1 else .no
  | .d (.list l) => if l.length ≤ LIM then .ok (enumD l) μ1 else .no
  | _ => .no) := rfl
@[simp] theorem x_eLenSet (f : EF) : eLenSet f ρ μ = (f ρ μ).bind fun w μ1 => (match w with
  | .d (.list l) => (match boolsL l with
    | some bs => if bs.length ≤ 1000 then .ok (.d (.int (cntB bs : Nat))) μ1 else .no
    | none => .no)
  | _ => .no) := rfl
@[simp] theorem x_eCatM (f g : EF) : eCatM f g ρ μ = (f ρ μ).bind fun a μ1 => (g ρ μ1).bind fun b μ2 => (match view μ2 a, view μ2 b with
  | some (.list x), some (.list y) => if x.length + y.length ≤ LIM then .ok (.m μ2.length) (μ2 ++ [some (.lst (x ++ y))]) else .no
  | _, _ => .no) := rfl
@[simp] theorem x_eCallV (i : Nat) (gs : List (Str × GF)) (a : AF) : eCallV i gs a ρ μ = (match ρ[i]? with
  | some (some (.f x)) => (match gs.lookup x with | some g => (a ρ μ).bind g | none => .no)
  | _ => .no) := rfl
@[simp] theorem x_eLcW (vs : List Nat) (i : Nat) (r : AF) (e : EF) : eLcW vs i r e ρ μ = (r ρ μ).bind fun ws μ1 => lcW i e (wipeE ρ vs) ws [] μ1 := rfl
/-! statements -/
@[simp] theorem x_sNil : sNil ρ μ = .nx ρ μ := rfl
@[simp] theorem x_sSeq (F G : SF) : sSeq F G ρ μ = (match F ρ μ with | .nx ρ1 μ1 => G ρ1 μ1 | r => r) := rfl
@[simp] theorem x_sAsg (i : Nat) (f : EF) : sAsg i f ρ μ = (f ρ μ).bindS fun w μ1 => .nx (ρ.set i (some w)) μ1 := rfl
@[simp] theorem x_sPar (i j : Nat) (f g : EF) : sPar i j f g ρ μ = (f ρ μ).bindS fun w μ1 => (g ρ μ1).bindS fun u μ2 => .nx ((ρ.set i (some w)).set j (some u)) μ2 := rfl
@[simp] theorem x_tName (i : Nat) (d : D) : tName i d ρ = some (ρ.set i (some (.d d))) := rfl
@[simp] theorem x_tTups0 : tTups [] [] ρ = some ρ := rfl
@[simp] theorem x_tTups1 (t : TF) (ts : List TF) (d : D) (ds : List D) : tTups (t :: ts) (d :: ds) ρ = (t d ρ).bind fun ρ1 => tTups ts ds ρ1 := rfl
@[simp] theorem x_tTup (ts : List TF) (ds : List D) : tTup ts (.tuple ds) ρ = tTups ts ds ρ := rfl
@[simp] theorem x_tUnl (ts : List TF) (ds : List D) : tUnl ts (.list ds) ρ = tTups ts ds ρ := rfl
@[simp] theorem x_sTgt (t : TF) (f : EF) : sTgt t f ρ μ = (f ρ μ).bindS fun w μ1 => (match w with | .d d => (match t d ρ with | some ρ1 => .nx ρ1 μ1 | none => .no) | _ => .no) := rfl
@[simp] theorem x_sDrop (f : EF) : sDrop f ρ μ = (f ρ μ).bindS fun _ μ1 => .nx ρ μ1 := rfl
@[simp] theorem x_sRet (f : EF) : sRet f ρ μ = (f ρ μ).bindS fun w μ1 => .rt w μ1 := rfl
@[simp] theorem x_sRetF (f : EF) : sRetF f ρ μ = (f ρ μ).bindS fun w μ1 => (match view μ1 w with | some d => .rt (.d d) (match w with | .m k => μ1.set k none | _ => μ1) | none => .no) := rfl
@[simp] theorem x_sIf (c : EF) (F G : SF) : sIf c F G ρ μ = RS.test (c ρ μ) fun b μ1 => if b = true then F ρ μ1 else G ρ μ1 := rfl
@[simp] theorem x_sFrz (i : Nat) : sFrz i ρ μ = (match ρ[i]? with
  | some (some (.m k)) => (match mlist μ k with | some l => .nx (ρ.set i (some (.d (.list l)))) (μ.set k none) | none => .no)
  | _ => .no) := rfl
@[simp] theorem x_sBreak : sBreak ρ μ = .bk ρ μ := rfl
@[simp] theorem x_sCont : sCont ρ μ = .ct ρ μ := rfl
@[simp] theorem x_sRaise (x : Str) : sRaise x ρ μ = .er ⟨x, none⟩ μ := rfl
@[simp] theorem x_sFor (t : TF) (it : IF) (B : SF) : sFor t it B ρ μ = (it ρ μ).bindS fun l μ1 => forL t B l ρ μ1 := rfl
@[simp] theorem x_sSub (o i e : EF) : sSub o i e ρ μ = (e ρ μ).bindS fun u μ1 => (o ρ μ1).bindS fun w μ2 => (i ρ μ2).bindS fun j μ3 => (match u, w, j with
  | .d d, .m k, .d (.int n) => (match mlist μ3 k with
    | some l => (match ixI l.length n with
      | some p => .nx ρ (μ3.set k (some (.lst (l.set p d))))
      | none => .no)
    | none => .no)
  | _, _, _ => .no) := rfl
end
@[simp] theorem x_test_er {x : Exn} {μ : Sto} (f : Bool → Sto → RS) : RS.test (R.er x μ) f = .er x μ := rfl
@[simp] theorem x_view_m (μ : Sto) (k : Nat) : view μ (.m k) = (mlist μ k).map .list := rfl
@[simp] theorem x_views0 (μ : Sto) : views μ [] = some [] := rfl
@[simp] theorem x_views1 (μ : Sto) (w : W) (r : List W) : views μ (w :: r) = (view μ w).bind fun d => (views μ r).map (d :: ·) := rfl
@[simp] theorem x_isN1 : isNonW (.d .none) = true := rfl
@[simp] theorem x_isN2 (i : Int) : isNonW (.d (.int i)) = false := rfl
@[simp] theorem x_isN3 (i : List D) : isNonW (.d (.tuple i)) = false := rfl
@[simp] theorem x_isN4 (i : List D) : isNonW (.d (.list i)) = false := rfl
@[simp] theorem x_isN5 (i : Str) : isNonW (.d (.str i)) = false := rfl
@[simp] theorem x_isN6 (i : Bool) : isNonW (.d (.bool i)) = false := rfl
@[simp] theorem x_startE (n : Nat) (ws : List W) : startE n ws = ws.map some ++ List.replicate (n - ws.length) none := rfl
@[simp] theorem x_addI (a b : Int) : dAdd (.int a) (.int b) = some (.int (a + b)) := rfl
@[simp] theorem x_subI (a b : Int) : dSub (.int a) (.int b) = some (.int (a - b)) := rfl
@[simp] theorem x_negI (a : Int) : dNeg (.int a) = some (.int (-a)) := rfl
@[simp] theorem x_ltI (a b : Int) : dLt (.int a) (.int b) = some (.bool (decide (a < b))) := rfl
@[simp] theorem x_leI (a b : Int) : dLe (.int a) (.int b) = some (.bool (decide (a ≤ b))) := rfl
@[simp] theorem x_gtI (a b : Int) : dGt (.int a) (.int b) = some (.bool (decide (b < a))) := rfl
@[simp] theorem x_geI (a b : Int) : dGe (.int a) (.int b) = some (.bool (decide (b ≤ a))) := rfl
theorem x_modI {a b : Int} (h : 0 < b) : dMod (.int a) (.int b) = some (.int (a % b)) := if_pos h
theorem x_divI {a b : Int} (h : 0 < b) (h2 : b < 2 ^ 1000) : dDiv (.int a) (.int b) = some (.int (a / b)) := if_pos ⟨h, h2⟩
theorem x_mulI {a b : Int} (h : mulOk a b) : dMul (.int a) (.int b) = some (.int (a * b)) := if_pos h
theorem mulOk_l {a b : Int} (h : a.natAbs < 2 ^ 64) : mulOk a b := .inl (.inl h)
theorem mulOk_r {a b : Int} (h : b.natAbs < 2 ^ 64) : mulOk a b := .inl (.inr h)
@[simp] theorem x_int1 (a : Int) : bInt [.int a] = some (.int a) := rfl
theorem x_fin (n : Nat) (d : D) (μ : Sto) (h : μ.length = n) : fin n (.rt (.d d) μ) = .ok (.d d) μ := by
  simp [fin, List.take_of_length_le (Nat.le_of_eq h)]
theorem fnOf_eq {p n : Nat} {F : SF} {ws : List W} {μ : Sto} (h : ws.length = p) : fnOf p n F ws μ = fin μ.length (F (ws.map some ++ List.replicate (n - ws.length) none) μ) := if_pos h
theorem fnOf1 (n : Nat) (F : SF) (a : W) (μ : Sto) : fnOf 1 n F [a] μ = fin μ.length (F (some a :: List.replicate (n - 1) none) μ) := rfl
theorem fnOf2 (n : Nat) (F : SF) (a b : W) (μ : Sto) : fnOf 2 n F [a, b] μ = fin μ.length (F (some a :: some b :: List.replicate (n - 2) none) μ) := rfl
theorem fnOf3 (n : Nat) (F : SF) (a b c : W) (μ : Sto) : fnOf 3 n F [a, b, c] μ = fin μ.length (F (some a :: some b :: some c :: List.replicate (n - 3) none) μ) := rfl
@[simp] theorem x_rangeD_len (a b : Int) : (rangeD a b).length = (b - a).toNat := by simp [rangeD]
/-! loops -/
/-- a loop that goes on and on, what holds kept -/
theorem forL_keep {t : TF} {B : SF} (I : Env → Sto → Prop) : ∀ (l : List D) (ρ : Env) (μ : Sto), I ρ μ →
    (∀ d ∈ l, ∀ ρ μ, I ρ μ → ∃ ρ1, t d ρ = some ρ1 ∧ ∃ ρ2 μ2, B ρ1 μ = .nx ρ2 μ2 ∧ I ρ2 μ2) → ∃ ρ' μ', forL t B l ρ μ = .nx ρ' μ' ∧ I ρ' μ'
  | [], ρ, μ, h, _ => ⟨ρ, μ, rfl, h⟩
  | d :: r, ρ, μ, h, st => by
    obtain ⟨ρ1, e1, ρ2, μ2, e2, h2⟩ := st d List.mem_cons_self ρ μ h
    obtain ⟨ρ', μ', e3, h3⟩ := forL_keep I r ρ2 μ2 h2 fun d hd => st d (List.mem_cons_of_mem _ hd)
    exact ⟨ρ', μ', by unfold forL; rw [e1]; dsimp only; rw [e2]; exact e3, h3⟩
/-- .. told by how many have been walked -/
theorem forL_count {t : TF} {B : SF} (I : Nat → Env → Sto → Prop) (n : Nat) : ∀ (l : List D) (i : Nat) (ρ : Env) (μ : Sto), i + l.length ≤ n → I i ρ μ →
    (∀ i d ρ μ, i < n → d ∈ l → I i ρ μ → ∃ ρ1, t d ρ = some ρ1 ∧ ∃ ρ2 μ2, B ρ1 μ = .nx ρ2 μ2 ∧ I (i + 1) ρ2 μ2) → ∃ ρ' μ', forL t B l ρ μ = .nx ρ' μ' ∧ I (i + l.length) ρ' μ'
  | [], i, ρ, μ, _, h, _ => ⟨ρ, μ, rfl, h⟩
  | d :: r, i, ρ, μ, hn, h, st => by
    rw [List.length_cons] at hn
    obtain ⟨ρ1, e1, ρ2, μ2, e2, h2⟩ := st i d ρ μ (by omega) List.mem_cons_self h
    obtain ⟨ρ', μ', e3, h3⟩ := forL_count I n r (i + 1) ρ2 μ2 (by omega) h2 fun i e ρ μ hi he => st i e ρ μ hi (List.mem_cons_of_mem _ he)
    exact ⟨ρ', μ', by unfold forL; rw [e1]; dsimp only; rw [e2]; exact e3, by rw [List.length_cons]; rw [show i + (r.length + 1) = i + 1 + r.length by omega]; exact h3⟩
/-- .. told by the list that is left and the walked one -/
theorem forL_upto {t : TF} {B : SF} (I : List D → Env → Sto → Prop) (L : List D) : ∀ (l p : List D) (ρ : Env) (μ : Sto), L = p ++ l → I p ρ μ →
    (∀ p d q ρ μ, L = p ++ d :: q → I p ρ μ → ∃ ρ1, t d ρ = some ρ1 ∧ ∃ ρ2 μ2, B ρ1 μ = .nx ρ2 μ2 ∧ I (p ++ [d]) ρ2 μ2) → ∃ ρ' μ', forL t B l ρ μ = .nx ρ' μ' ∧ I L ρ' μ'
  | [], p, ρ, μ, e, h, _ => ⟨ρ, μ, rfl, by rw [e, List.append_nil]; exact h⟩
  | d :: r, p, ρ, μ, e, h, st => by
    obtain ⟨ρ1, e1, ρ2, μ2, e2, h2⟩ := st p d r ρ μ e h
    obtain ⟨ρ', μ', e3, h3⟩ := forL_upto I L r (p ++ [d]) ρ2 μ2 (by rw [e]; simp) h2 st
    exact ⟨ρ', μ', by unfold forL; rw [e1]; dsimp only; rw [e2]; exact e3, h3⟩
theorem forL_uptoT {α : Type} (f : α → D) {t : TF} {B : SF} (I : List α → Env → Sto → Prop) (L : List α) : ∀ (l p : List α) (ρ : Env) (μ : Sto), L = p ++ l → I p ρ μ →
    (∀ p d q ρ μ, L = p ++ d :: q → I p ρ μ → ∃ ρ1, t (f d) ρ = some ρ1 ∧ ∃ ρ2 μ2, B ρ1 μ = .nx ρ2 μ2 ∧ I (p ++ [d]) ρ2 μ2) → ∃ ρ' μ', forL t B (l.map f) ρ μ = .nx ρ' μ' ∧ I L ρ' μ'
  | [], p, ρ, μ, e, h, _ => ⟨ρ, μ, rfl, by rw [e, List.append_nil]; exact h⟩
  | d :: r, p, ρ, μ, e, h, st => by
    obtain ⟨ρ1, e1, ρ2, μ2, e2, h2⟩ := st p d r ρ μ e h
    obtain ⟨ρ', μ', e3, h3⟩ := forL_uptoT f I L r (p ++ [d]) ρ2 μ2 (by rw [e]; simp) h2 st
    exact ⟨ρ', μ', by rw [List.map_cons]; unfold forL; rw [e1]; dsimp only; rw [e2]; exact e3, h3⟩
/-- a comprehension whose items are told by a map; nothing is changed -/
theorem lc_map {t : TF} {c e : EF} {ρ : Env} {μ : Sto} (y : D → D) : ∀ (l acc : List D), (∀ d ∈ l, ∃ ρ1, t d ρ = some ρ1 ∧ c ρ1 μ = .ok (.d (.bool true)) μ ∧ e ρ1 μ = .ok (.d (y d)) μ) → lcL t c e ρ l acc μ = .ok (.d (.list (acc ++ l.map y))) μ
  | [], acc, _ => by simp [lcL]
  | d :: r, acc, h => by
    obtain ⟨ρ1, e1, e2, e3⟩ := h d List.mem_cons_self
    unfold lcL
    rw [e1]
    dsimp only
    rw [e2]
    dsimp only
    rw [e3]
    dsimp only
    rw [lc_map y r (acc ++ [y d]) fun d hd => h d (List.mem_cons_of_mem _ hd)]
    simp
/-- .. with a test -/
theorem lc_filter {t : TF} {c e : EF} {ρ : Env} {μ : Sto} (p : D → Bool) (y : D → D) : ∀ (l acc : List D), (∀ d ∈ l, ∃ ρ1, t d ρ = some ρ1 ∧ c ρ1 μ = .ok (.d (.bool (p d))) μ ∧ (p d = true → e ρ1 μ = .ok (.d (y d)) μ)) →
    lcL t c e ρ l acc μ = .ok (.d (.list (acc ++ (l.filter p).map y))) μ
  | [], acc, _ => by simp [lcL]
  | d :: r, acc, h => by
    obtain ⟨ρ1, e1, e2, e3⟩ := h d List.mem_cons_self
    unfold lcL
    rw [e1]
    dsimp only
    rw [e2]
    cases hp : p d with
    | true =>
      dsimp only
      rw [e3 hp]
      dsimp only
      rw [lc_filter p y r (acc ++ [y d]) fun d hd => h d (List.mem_cons_of_mem _ hd)]
      simp [hp]
    | false =>
      dsimp only
      rw [lc_filter p y r acc fun d hd => h d (List.mem_cons_of_mem _ hd)]
      simp [hp]
/-- over things that stand for data -/
theorem lc_mapT {α : Type} {t : TF} {c e : EF} {ρ : Env} {μ : Sto} (f : α → D) (g : α → D) : ∀ (l : List α) (acc : List D), (∀ x ∈ l, ∃ ρ1, t (f x) ρ = some ρ1 ∧ c ρ1 μ = .ok (.d (.bool true)) μ ∧ e ρ1 μ = .ok (.d (g x)) μ) →
    lcL t c e ρ (l.map f) acc μ = .ok (.d (.list (acc ++ l.map g))) μ
  | [], acc, _ => by simp [lcL]
  | d :: r, acc, h => by
    obtain ⟨ρ1, e1, e2, e3⟩ := h d List.mem_cons_self
    rw [List.map_cons]
    unfold lcL
    rw [e1]
    dsimp only
    rw [e2]
    dsimp only
    rw [e3]
    dsimp only
    rw [lc_mapT f g r (acc ++ [g d]) fun d hd => h d (List.mem_cons_of_mem _ hd)]
    simp
theorem dEqI (i j : Int) : dEq (.int i) (.int j) = some (.bool (i == j)) := rfl
theorem dNeI (i j : Int) : dNe (.int i) (.int j) = some (.bool (!(i == j))) := rfl
theorem dEqD {a b : D} (ha : SeqAt.shaped a = true) (hb : SeqAt.shaped b = true) : dEq a b = some (.bool (PyData.eqv a b)) := if_pos ⟨ha, hb⟩
theorem dNeD {a b : D} (ha : SeqAt.shaped a = true) (hb : SeqAt.shaped b = true) : dNe a b = some (.bool (!PyData.eqv a b)) := if_pos ⟨ha, hb⟩
theorem dEqS {x y : Str} (ha : SeqAt.shaped (.str x) = true) (hb : SeqAt.shaped (.str y) = true) : dEq (.str x) (.str y) = some (.bool (x == y)) := by rw [dEqD ha hb]; rfl
theorem dNeS {x y : Str} (ha : SeqAt.shaped (.str x) = true) (hb : SeqAt.shaped (.str y) = true) : dNe (.str x) (.str y) = some (.bool (!(x == y))) := by rw [dNeD ha hb]; rfl
theorem canAll_mem : ∀ {l : List D} {x : D}, PyData.canLayAll0 l = true → x ∈ l → x.canLay0 = true
  | y :: r, x, h, hx => by
    rw [PyData.canLayAll0, Bool.and_eq_true] at h
    rcases List.mem_cons.mp hx with rfl | hx
    · exact h.1
    · exact canAll_mem h.2 hx
theorem depth_mem : ∀ {l : List D} {x : D}, x ∈ l → x.depth ≤ PyData.depthAll l
  | y :: r, x, hx => by
    rw [PyData.depthAll]
    rcases List.mem_cons.mp hx with rfl | hx
    · exact Nat.le_max_left _ _
    · exact Nat.le_trans (depth_mem hx) (Nat.le_max_right _ _)
theorem shaped_iff {d : D} : SeqAt.shaped d = true ↔ d.canLay0 = true ∧ d.depth ≤ 64 := by simp [SeqAt.shaped]
theorem shaped_tup {l : List D} (h : SeqAt.shaped (.tuple l) = true) : ∀ x ∈ l, SeqAt.shaped x = true := fun x hx => by
  obtain ⟨h1, h2⟩ := shaped_iff.mp h
  rw [PyData.canLay0] at h1
  rw [PyData.depth] at h2
  exact shaped_iff.mpr ⟨canAll_mem h1 hx, by have := depth_mem hx; omega⟩
theorem shaped_lst {l : List D} (h : SeqAt.shaped (.list l) = true) : ∀ x ∈ l, SeqAt.shaped x = true := fun x hx => by
  obtain ⟨h1, h2⟩ := shaped_iff.mp h
  rw [PyData.canLay0] at h1
  rw [PyData.depth] at h2
  exact shaped_iff.mpr ⟨canAll_mem h1 hx, by have := depth_mem hx; omega⟩
end Mi

set_option linter.all false
set_option Elab.async false
set_option maxRecDepth 100000
set_option maxHeartbeats 1000000
/-! The plain law: what the law's own draws are. -/
namespace Pure
open PySem Mi Mir
/-- the drum -/
def drum (a b : Int) : Option Cell := some (.lst [.int a, .int b])
structure DrumAt (μ : Sto) (k : Nat) : Prop where
  at_ : ∃ a b, μ[k]? = some (drum a b) ∧ 0 ≤ a ∧ 0 ≤ b ∧ b < 4294967296
theorem DrumAt.lt {μ : Sto} {k : Nat} (h : DrumAt μ k) : k < μ.length := by
  obtain ⟨a, b, e, _⟩ := h.at_
  exact (List.getElem?_eq_some_iff.mp e).1
/-- the store with the drum rolled on -/
def Rolled (k : Nat) (μ μ' : Sto) : Prop := ∃ a b, μ' = μ.set k (drum a b) ∧ 0 ≤ a ∧ 0 ≤ b ∧ b < 4294967296
theorem Rolled.at_ {k : Nat} {μ μ' : Sto} (r : Rolled k μ μ') (h : k < μ.length) : DrumAt μ' k := by
  obtain ⟨a, b, rfl, ha, hb, hb2⟩ := r
  exact ⟨a, b, by simp [h], ha, hb, hb2⟩
theorem Rolled.len {k : Nat} {μ μ' : Sto} (r : Rolled k μ μ') : μ'.length = μ.length := by
  obtain ⟨a, b, rfl, _⟩ := r
  simp
theorem Rolled.ne {k j : Nat} {μ μ' : Sto} (r : Rolled k μ μ') (h : k ≠ j) : μ'[j]? = μ[j]? := by
  obtain ⟨a, b, rfl, _⟩ := r
  exact List.getElem?_set_ne h
theorem Rolled.trans {k : Nat} {μ μ1 μ2 : Sto} (r : Rolled k μ μ1) (s : Rolled k μ1 μ2) : Rolled k μ μ2 := by
  obtain ⟨a, b, rfl, _⟩ := r
  obtain ⟨a', b', rfl, h⟩ := s
  exact ⟨a', b', by rw [List.set_set], h⟩
theorem ml_set {μ : Sto} {k : Nat} {l : List D} (h : k < μ.length) : mlist (μ.set k (some (.lst l))) k = some l := by simp [mlist, h]
theorem ix0 (x : D) (l : List D) : dIx (.list (x :: l)) (.int 0) = some x := by simp [dIx, ixI]
theorem ix1 (x y : D) (l : List D) : dIx (.list (x :: y :: l)) (.int 1) = some y := by
  have : (1 : Int) < (l.length : Int) + 1 + 1 := by omega
  simp [dIx, ixI, this]
theorem roll_spec {μ : Sto} {k : Nat} {many : Int} (h : DrumAt μ k) (hm : 0 < many) (hm2 : many < 2 ^ 1000) :
    ∃ r μ', 0 ≤ r ∧ r < many ∧ Rolled k μ μ' ∧ g__law_roll [.m k, .d (.int many)] μ = .ok (.d (.int r)) μ' := by
  obtain ⟨a, b, e, ha, hb, hb2⟩ := h.at_
  have hk : k < μ.length := h.lt
  have ml : mlist μ k = some [.int a, .int b] := by simp [mlist, e, drum]
  unfold g__law_roll fnOf
  by_cases hp : 0 < a
  · refine ⟨a % many, _, Int.emod_nonneg _ (by omega), Int.emod_lt_of_pos _ hm, ⟨a / many, b, rfl, Int.ediv_nonneg ha (by omega), hb, hb2⟩, ?_⟩
    simp [F__law_roll, ml, ix0, hp, x_modI hm, x_divI hm hm2, ixI]
    rw [x_fin _ _ _ (by simp)]
    simp [drum]
  · have m1 : mulOk b 30671 := mulOk_r (by decide)
    have m2 : ∀ x y : Int, 0 ≤ x → x < 2147483549 → mulOk x y := fun x y h1 h2 => mulOk_l (by omega)
    generalize hb' : (b * 30671 + 8807) % 2147483549 = b1
    have hb1 : 0 ≤ b1 := by rw [← hb']; exact Int.emod_nonneg _ (by decide)
    have hb3 : b1 < 2147483549 := by rw [← hb']; exact Int.emod_lt_of_pos _ (by decide)
    have i1 : ixI (List.length [PyData.int a, PyData.int b]) 1 = some 1 := rfl
    refine ⟨(b1 * (b1 + 101) % 2147483587 / 613) % many, _, Int.emod_nonneg _ (by omega), Int.emod_lt_of_pos _ hm, ⟨a, b1, rfl, ha, hb1, by omega⟩, ?_⟩
    simp [F__law_roll, ml, ix0, ix1, hp, x_mulI m1, x_modI, hb', x_mulI (m2 b1 _ hb1 hb3), x_modI hm, x_divI (show (0 : Int) < 613 by decide) (by decide), ixI, ml_set hk]
    rw [x_fin _ _ _ (by simp)]
    simp [drum]
theorem some_spec {μ : Sto} {k : Nat} {l : List D} (h : DrumAt μ k) (hl : l ≠ []) (hl2 : l.length < 1000) :
    ∃ d μ', d ∈ l ∧ Rolled k μ μ' ∧ g__law_some [.m k, .d (.list l)] μ = .ok (.d d) μ' := by
  have h0 : 0 < l.length := List.length_pos_iff.mpr hl
  obtain ⟨r, μ', h1, h2, hr, e⟩ := roll_spec (many := l.length) h (by omega) (Int.lt_of_lt_of_le (show (l.length : Int) < 1000 by omega) (by decide))
  have hi : r.toNat < l.length := by omega
  refine ⟨l[r.toNat], μ', List.getElem_mem hi, hr, ?_⟩
  unfold g__law_some fnOf
  simp [F__law_some, bLen, e, dIx, ixI, h1, h2, hi]
  rw [x_fin _ _ _ hr.len]
theorem drum_spec {cell turn : Int} {μ : Sto} (ht : 0 ≤ turn) (ht2 : turn < 1000) : ∃ a b, 0 ≤ a ∧ 0 ≤ b ∧ b < 4294967296 ∧ g__law_drum [.d (.int cell), .d (.int turn)] μ = .ok (.m μ.length) (μ ++ [drum a b]) := by
  have p18 : dPow (.int 10) (.int 18) = some (.int (10 ^ 18)) := rfl
  have m1 : mulOk 61 turn := mulOk_l (by decide)
  have m2 : mulOk cell 97 := mulOk_r (by decide)
  have m3 : mulOk 1087 turn := mulOk_l (by decide)
  unfold g__law_drum fnOf
  by_cases hc : (1000000000000000000 : Int) ≤ cell
  · refine ⟨cell / 7 + 61 * turn, (cell * 97 + 1087 * turn) % 2077504273 + 71, by omega, by omega, by omega, ?_⟩
    simp [F__law_drum, p18, hc, x_divI (show (0 : Int) < 7 by decide) (by decide), x_mulI m1, x_mulI m2, x_mulI m3, x_modI, fin, drum, List.take_of_length_le]
  · refine ⟨0, (cell * 97 + 1087 * turn) % 2077504273 + 71, by omega, by omega, by omega, ?_⟩
    simp [F__law_drum, p18, hc, x_divI (show (0 : Int) < 7 by decide) (by decide), x_mulI m1, x_mulI m2, x_mulI m3, x_modI, fin, drum, List.take_of_length_le]
end Pure

set_option linter.all false
set_option Elab.async false
set_option maxRecDepth 100000
set_option maxHeartbeats 1000000
/-! The plain law: the changes that the law makes up. -/
namespace Pure
open PySem Mi Mir
structure Pc where
  lo : Option Int
  hi : Option Int
  set : Bool
  by_ : Int
def oD : Option Int → D
  | none => .none
  | some i => .int i
@[simp] theorem oD_none : oD none = .none := rfl
@[simp] theorem oD_some (i : Int) : oD (some i) = .int i := rfl
def wd (b : Bool) : Str := if b then "set" else "add"
def Pc.d (p : Pc) : D := .tuple [oD p.lo, oD p.hi, .str (wd p.set), .int p.by_]
def far : Int := 1000000000000000000000000000000
def EndOk (o : Option Int) : Prop := ∀ i, o = some i → -far ≤ i ∧ i ≤ far
structure PcOk (p : Pc) : Prop where
  lo : EndOk p.lo
  hi : EndOk p.hi
  le : ∀ i j, p.lo = some i → p.hi = some j → i ≤ j
  by1 : -far ≤ p.by_
  by2 : p.by_ ≤ far
  add : p.set = false → p.by_ ≠ 0
def Ap (p q : Pc) : Prop := ∃ h l, p.hi = some h ∧ q.lo = some l ∧ h < l
def Apart : List Pc → Prop
  | p :: q :: r => Ap p q ∧ Apart (q :: r)
  | _ => True
theorem apart_snoc (q : Pc) : ∀ ps : List Pc, Apart ps → (∀ p, ps.getLast? = some p → Ap p q) → Apart (ps ++ [q])
  | [], _, _ => True.intro
  | [p], _, h => ⟨h p rfl, True.intro⟩
  | p :: p' :: r, ha, h => ⟨ha.1, apart_snoc q (p' :: r) ha.2 fun x hx => h x (by rw [List.getLast?_cons_cons]; exact hx)⟩
theorem apart_first {p p' : Pc} (h : p'.hi = p.hi) : ∀ r : List Pc, Apart (p :: r) → Apart (p' :: r)
  | [], _ => True.intro
  | q :: r, ha => ⟨by obtain ⟨a, b, h1, h2, h3⟩ := ha.1; exact ⟨a, b, by rw [h]; exact h1, h2, h3⟩, ha.2⟩
theorem apart_last {p p' : Pc} (h : p'.lo = p.lo) : ∀ r : List Pc, Apart (r ++ [p]) → Apart (r ++ [p'])
  | [], _ => True.intro
  | [q], ha => ⟨by obtain ⟨a, b, h1, h2, h3⟩ := ha.1; exact ⟨a, b, h1, by rw [h]; exact h2, h3⟩, True.intro⟩
  | q :: q' :: r, ha => ⟨ha.1, apart_last h (q' :: r) ha.2⟩
structure ChOk (ps : List Pc) : Prop where
  one : 1 ≤ ps.length
  four : ps.length ≤ 4
  all : ∀ p ∈ ps, PcOk p
  apart : Apart ps
theorem DrumAt.app {μ : Sto} {k : Nat} (h : DrumAt μ k) (ν : Sto) : DrumAt (μ ++ ν) k := by
  obtain ⟨a, b, e, r⟩ := h.at_
  exact ⟨a, b, by rw [List.getElem?_append_left h.lt]; exact e, r⟩
theorem Rolled.app {μ ν μ' : Sto} {k : Nat} (r : Rolled k (μ ++ ν) μ') (h : k < μ.length) : ∃ μ2, μ' = μ2 ++ ν ∧ Rolled k μ μ2 := by
  obtain ⟨a, b, rfl, h1⟩ := r
  exact ⟨μ.set k (drum a b), by rw [List.set_append_left _ _ h], a, b, rfl, h1⟩
theorem Rolled.refl {μ : Sto} {k : Nat} (h : DrumAt μ k) : Rolled k μ μ := by
  obtain ⟨a, b, e, r⟩ := h.at_
  refine ⟨a, b, (List.ext_getElem? fun j => ?_).symm, r⟩
  by_cases hj : k = j
  · subst hj
    rw [List.getElem?_set_self h.lt, e]
  · rw [List.getElem?_set_ne hj]
theorem ml_last (μ : Sto) (l : List D) : mlist (μ ++ [some (.lst l)]) μ.length = some l := by simp [mlist]
theorem set_last (μ : Sto) (c c' : Option Cell) : (μ ++ [c]).set μ.length c' = μ ++ [c'] := by simp
theorem ixL (l : List D) (x : D) : dIx (.list (l ++ [x])) (.int (-1)) = some x := by
  have h1 : (-((l.length : Int) + 1) ≤ -1) := by omega
  have h2 : (-1 + ((l.length : Int) + 1)).toNat = l.length := by omega
  simp [dIx, ixI, h1, h2]
theorem ixI_last (n : Nat) : ixI (n + 1) (-1) = some n := by
  have h1 : (-((n : Int) + 1) ≤ -1) := by omega
  have h2 : (-1 + ((n : Int) + 1)).toNat = n := by omega
  simp [ixI, h1, h2]
/-- what the making of a change keeps -/
structure Row (ps : List Pc) (low : Int) : Prop where
  all : ∀ p ∈ ps, PcOk p ∧ (∃ l, p.lo = some l) ∧ ∃ h, p.hi = some h
  apart : Apart ps
  last : ∀ p, ps.getLast? = some p → ∃ h, p.hi = some h ∧ h < low
theorem far_big : (1000000000 : Int) ≤ far := by decide
theorem Row.snoc {ps : List Pc} {low low' high : Int} {s : Bool} {b : Int} (r : Row ps low) (h1 : -1000000 ≤ low) (h2 : low ≤ high) (h3 : high ≤ 1000000) (hl : high < low') (hb : -1000000 ≤ b) (hb2 : b ≤ 1000000) (ha : s = false → b ≠ 0) :
    Row (ps ++ [⟨some low, some high, s, b⟩]) low' := by
  have hf := far_big
  refine ⟨fun p hp => ?_, apart_snoc _ ps r.apart fun p hp => ?_, fun p hp => ?_⟩
  · rcases List.mem_append.mp hp with hp | hp
    · exact r.all p hp
    · obtain rfl := List.mem_singleton.mp hp
      refine ⟨⟨fun i e => ?_, fun i e => ?_, fun i j e1 e2 => ?_, by show -far ≤ b; omega, by show b ≤ far; omega, ha⟩, ⟨low, rfl⟩, ⟨high, rfl⟩⟩
      · cases e; omega
      · cases e; omega
      · cases e1; cases e2; exact h2
  · obtain ⟨h, e, hh⟩ := r.last p hp
    exact ⟨h, low, e, rfl, hh⟩
  · rw [List.getLast?_append] at hp
    cases hp
    exact ⟨high, rfl, hl⟩
theorem mem3 {d a b c : D} (h : d ∈ [a, b, c]) : d = a ∨ d = b ∨ d = c := by simpa using h
/-- one turn's piece -/
theorem change_turn {μ : Sto} {k : Nat} {most : Int} {ps : List Pc} {low : Int} {x4 x5 x6 x7 : Option W} (h : DrumAt μ k) (hm : 0 < most) (hm2 : most ≤ 1000) (hl : -1000000 ≤ low + 0) (r : Row ps low) (hlo : -20 ≤ low) (hhi : low ≤ 1000) (hlen : ps.length < 1000) (j : D) :
    ∃ p low' μ' h w b, Row (ps ++ [p]) low' ∧ low ≤ low' ∧ low' ≤ low + 19 ∧ Rolled k μ μ' ∧
      (sSeq (sAsg 5 (eOp dAdd (eVar 3) (eCall g__law_some (aCons (eVar 0) (aCons (eLst (aCons (eInt 0) (aCons (eInt 2) (aCons (eInt 5) (aCons (eInt 9) (aCons (eInt 14) aNil)))))) aNil)))))
    (sSeq (sAsg 6 (eCall g__law_some (aCons (eVar 0) (aCons (eLst (aCons (eStr "add") (aCons (eStr "add") (aCons (eStr "add") (aCons (eStr "set") aNil))))) aNil))))
    (sSeq (sAsg 7 (eIf (eOp dEq (eVar 6) (eStr "add")) (eOp dMul (eCall g__law_some (aCons (eVar 0) (aCons (eLst (aCons (eUn dNeg (eInt 1)) (aCons (eInt 1) (aCons (eInt 1) aNil)))) aNil))) (eOp dAdd (eInt 1) (eCall g__law_roll (aCons (eVar 0) (aCons (eVar 1) aNil))))) (eOp dAdd (eUn dNeg (eInt 22)) (eCall g__law_roll (aCons (eVar 0) (aCons (eInt 64) aNil))))))
    (sSeq (sDrop (eApp (eVar 2) (eTup (aCons (eVar 3) (aCons (eVar 5) (aCons (eVar 6) (aCons (eVar 7) aNil)))))))
    (sAsg 3 (eOp dAdd (eOp dAdd (eVar 5) (eInt 1)) (eCall g__law_some (aCons (eVar 0) (aCons (eLst (aCons (eInt 0) (aCons (eInt 0) (aCons (eInt 1) (aCons (eInt 4) aNil))))) aNil))))))))) 
      [some (.m k), some (.d (.int most)), some (.m μ.length), some (.d (.int low)), x4, x5, x6, x7] (μ ++ [some (.lst (ps.map Pc.d))]) =
      .nx [some (.m k), some (.d (.int most)), some (.m μ.length), some (.d (.int low')), x4, h, w, b] (μ' ++ [some (.lst ((ps ++ [p]).map Pc.d))]) := by
  have hk := h.lt
  obtain ⟨d1, μ1', m1, r1', e1⟩ := some_spec (l := [.int 0, .int 2, .int 5, .int 9, .int 14]) (h.app [some (.lst (ps.map Pc.d))]) (by simp) (by simp)
  obtain ⟨μ1, rfl, r1⟩ := r1'.app hk
  obtain ⟨a1, rfl, a1l, a1h⟩ : ∃ a, d1 = .int a ∧ 0 ≤ a ∧ a ≤ 14 := by
    simp at m1
    rcases m1 with rfl | rfl | rfl | rfl | rfl <;> exact ⟨_, rfl, by decide, by decide⟩
  have h1 := r1.at_ hk
  have k1 := h1.lt
  obtain ⟨d2, μ2', m2, r2', e2⟩ := some_spec (l := [.str "add", .str "add", .str "add", .str "set"]) (h1.app [some (.lst (ps.map Pc.d))]) (by simp) (by simp)
  obtain ⟨μ2, rfl, r2⟩ := r2'.app k1
  have h2 := r2.at_ k1
  have k2 := h2.lt
  -- the step
  obtain ⟨sb, b, μ3, r3, rfl, hb1, hb2, hb3, eb⟩ : ∃ (sb : Bool) (b : Int) (μ3 : Sto), Rolled k μ2 μ3 ∧ d2 = .str (wd sb) ∧ -1000000 ≤ b ∧ b ≤ 1000000 ∧ (sb = false → b ≠ 0) ∧
      (eIf (eOp dEq (eVar 6) (eStr "add")) (eOp dMul (eCall g__law_some (aCons (eVar 0) (aCons (eLst (aCons (eUn dNeg (eInt 1)) (aCons (eInt 1) (aCons (eInt 1) aNil)))) aNil))) (eOp dAdd (eInt 1) (eCall g__law_roll (aCons (eVar 0) (aCons (eVar 1) aNil))))) (eOp dAdd (eUn dNeg (eInt 22)) (eCall g__law_roll (aCons (eVar 0) (aCons (eInt 64) aNil)))))
        [some (.m k), some (.d (.int most)), some (.m μ.length), some (.d (.int low)), x4, some (.d (.int (low + a1))), some (.d d2), x7] (μ2 ++ [some (.lst (ps.map Pc.d))]) = .ok (.d (.int b)) (μ3 ++ [some (.lst (ps.map Pc.d))]) := by
    have hd : d2 = .str "add" ∨ d2 = .str "set" := by
      simp at m2
      rcases m2 with h | h
      · exact .inl h
      · exact .inr h
    rcases hd with rfl | rfl
    · obtain ⟨d3, μ3', m3, r3', e3⟩ := some_spec (l := [.int (-1), .int 1, .int 1]) (h2.app [some (.lst (ps.map Pc.d))]) (by simp) (by simp)
      obtain ⟨μ3, rfl, r3⟩ := r3'.app k2
      have h3 := r3.at_ k2
      have k3 := h3.lt
      obtain ⟨q, μ4', q1, q2, r4', e4⟩ := roll_spec (many := most) (h3.app [some (.lst (ps.map Pc.d))]) hm (Int.lt_of_le_of_lt hm2 (by decide +kernel))
      obtain ⟨μ4, rfl, r4⟩ := r4'.app k3
      have dq : dEq (.str "add") (.str "add") = some (.bool true) := by kernel_rfl
      have hd3 : d3 = .int (-1) ∨ d3 = .int 1 := by
        simp at m3
        exact m3
      rcases hd3 with rfl | rfl
      · refine ⟨false, -1 * (1 + q), μ4, r3.trans r4, rfl, by omega, by omega, fun _ => by omega, ?_⟩
        simp [e3, e4, dq, x_mulI (mulOk_l (a := -1) (b := 1 + q) (by decide))]
      · refine ⟨false, 1 * (1 + q), μ4, r3.trans r4, rfl, by omega, by omega, fun _ => by omega, ?_⟩
        simp [e3, e4, dq, x_mulI (mulOk_l (a := 1) (b := 1 + q) (by decide))]
    · obtain ⟨q, μ4', q1, q2, r4', e4⟩ := roll_spec (many := 64) (h2.app [some (.lst (ps.map Pc.d))]) (by decide) (by decide)
      obtain ⟨μ4, rfl, r4⟩ := r4'.app k2
      have dq : dEq (.str "set") (.str "add") = some (.bool false) := by kernel_rfl
      refine ⟨true, -22 + q, μ4, r4, rfl, by omega, by omega, fun h => (nomatch h), ?_⟩
      simp [e4, dq]
  have h3 := r3.at_ k2
  have k3 := h3.lt
  have l3 : μ3.length = μ.length := by rw [r3.len, r2.len, r1.len]
  obtain ⟨d5, μ5', m5, r5', e5⟩ := some_spec (l := [.int 0, .int 0, .int 1, .int 4]) (h3.app [some (.lst (ps.map Pc.d ++ [Pc.d ⟨some low, some (low + a1), sb, b⟩]))]) (by simp) (by simp)
  obtain ⟨μ5, rfl, r5⟩ := r5'.app k3
  obtain ⟨a5, rfl, a5l, a5h⟩ : ∃ a, d5 = .int a ∧ 0 ≤ a ∧ a ≤ 4 := by
    simp at m5
    rcases m5 with rfl | rfl | rfl <;> exact ⟨_, rfl, by decide, by decide⟩
  refine ⟨⟨some low, some (low + a1), sb, b⟩, low + a1 + 1 + a5, μ5, some (.d (.int (low + a1))), some (.d (.str (wd sb))), some (.d (.int b)), r.snoc (by omega) (by omega) (by omega) (by omega) hb1 hb2 hb3, by omega, by omega, ((r1.trans r2).trans r3).trans r5, ?_⟩
  have ml : mlist (μ3 ++ [some (.lst (ps.map Pc.d))]) μ.length = some (ps.map Pc.d) := by rw [← l3]; exact ml_last _ _
  have hL : (ps.map Pc.d).length < LIM := by
    rw [List.length_map]
    exact Nat.lt_of_lt_of_le hlen (by decide)
  have sl : (μ3 ++ [some (Cell.lst (ps.map Pc.d))]).set μ.length (some (Cell.lst (ps.map Pc.d ++ [Pc.d ⟨some low, some (low + a1), sb, b⟩]))) = μ3 ++ [some (Cell.lst (ps.map Pc.d ++ [Pc.d ⟨some low, some (low + a1), sb, b⟩]))] := by rw [← l3]; exact set_last _ _ _
  rw [x_sSeq, x_sAsg]
  simp only [x_eOp, x_eVar, x_eCall, x_aCons, x_aNil, x_eLst, x_eInt, R.bind_ok, asDs_cons, asDs_nil, Option.map_some, ofO_some, List.getElem?_cons_zero, List.getElem?_cons_succ, e1, view_d, Option.bind_some, x_addI, R.bindS_ok, List.set_cons_zero, List.set_cons_succ]
  rw [x_sSeq, x_sAsg]
  simp only [x_eOp, x_eVar, x_eCall, x_aCons, x_aNil, x_eLst, x_eStr, R.bind_ok, asDs_cons, asDs_nil, Option.map_some, ofO_some, List.getElem?_cons_zero, List.getElem?_cons_succ, e2, view_d, Option.bind_some, x_addI, R.bindS_ok, List.set_cons_zero, List.set_cons_succ]
  rw [x_sSeq, x_sAsg, eb]
  have hL2 : ps.length < LIM := by rwa [List.length_map] at hL
  simp [ml, hL2]
  have sl2 := sl
  simp [Pc.d] at sl2 e5 ⊢
  rw [sl2, e5]
  simp
/-- an end taken away -/
def Pc.noLo (p : Pc) : Pc := { p with lo := none }
def Pc.noHi (p : Pc) : Pc := { p with hi := none }
theorem PcOk.noLo {p : Pc} (h : PcOk p) : PcOk p.noLo := ⟨(fun i e => by cases e), h.hi, (fun i j e => by cases e), h.by1, h.by2, h.add⟩
theorem PcOk.noHi {p : Pc} (h : PcOk p) : PcOk p.noHi := ⟨h.lo, (fun i e => by cases e), (fun i j _ e => by cases e), h.by1, h.by2, h.add⟩
theorem ChOk.first {p : Pc} {r : List Pc} (h : ChOk (p :: r)) : ChOk (p.noLo :: r) :=
  ⟨h.one, h.four, fun q hq => by
    rcases List.mem_cons.mp hq with rfl | hq
    · exact (h.all p List.mem_cons_self).noLo
    · exact h.all q (List.mem_cons_of_mem _ hq), apart_first (p := p) (p' := p.noLo) rfl r h.apart⟩
theorem ChOk.last {p : Pc} {r : List Pc} (h : ChOk (r ++ [p])) : ChOk (r ++ [p.noHi]) :=
  ⟨by simp, by have := h.four; simpa using this, fun q hq => by
    rcases List.mem_append.mp hq with hq | hq
    · exact h.all q (List.mem_append_left _ hq)
    · obtain rfl := List.mem_singleton.mp hq
      exact (h.all p (List.mem_append_right _ List.mem_cons_self)).noHi, apart_last (p := p) (p' := p.noHi) rfl r h.apart⟩
theorem cut_first (p : Pc) : dCut p.d (some 1) none = some (.tuple [oD p.hi, .str (wd p.set), .int p.by_]) := rfl
theorem cut_last (p : Pc) : dCut p.d (some 2) none = some (.tuple [.str (wd p.set), .int p.by_]) := rfl
theorem ix_lo (p : Pc) : dIx p.d (.int 0) = some (oD p.lo) := rfl
theorem dEqI0 (i : Int) : dEq (.int i) (.int 0) = some (.bool (i == 0)) := rfl
theorem first_if {μ : Sto} {k : Nat} {p : Pc} {r : List Pc} {x1 x3 x4 x5 x6 x7 : Option W} (h : DrumAt μ k) (hc : ChOk (p :: r)) : ∃ ps μ', ChOk ps ∧ ps.length = r.length + 1 ∧ Rolled k μ μ' ∧
    sIf (eOp dEq (eCall g__law_roll (aCons (eVar 0) (aCons (eInt 6) aNil))) (eInt 0)) (sSub (eVar 2) (eInt 0) (eOp dAdd (eTup (aCons eNon aNil)) (eSl dCut (eOp dIx (eVar 2) (eInt 0)) (some (eInt 1)) none))) sNil
      [some (.m k), x1, some (.m μ.length), x3, x4, x5, x6, x7] (μ ++ [some (.lst ((p :: r).map Pc.d))]) = .nx [some (.m k), x1, some (.m μ.length), x3, x4, x5, x6, x7] (μ' ++ [some (.lst (ps.map Pc.d))]) := by
  obtain ⟨q, μ1', ql, qh, r1', e1⟩ := roll_spec (many := 6) (h.app [some (.lst ((p :: r).map Pc.d))]) (by decide) (by decide +kernel)
  obtain ⟨μ1, rfl, r1⟩ := r1'.app h.lt
  have l1 := r1.len
  have ml : mlist (μ1 ++ [some (Cell.lst ((p :: r).map Pc.d))]) μ.length = some ((p :: r).map Pc.d) := by rw [← l1]; exact ml_last _ _
  by_cases hq : q = 0
  · subst hq
    refine ⟨p.noLo :: r, μ1, hc.first, rfl, r1, ?_⟩
    have sl : (μ1 ++ [some (Cell.lst ((p :: r).map Pc.d))]).set μ.length (some (Cell.lst ((p.noLo :: r).map Pc.d))) = μ1 ++ [some (Cell.lst ((p.noLo :: r).map Pc.d))] := by rw [← l1]; exact set_last _ _ _
    have ta : dAdd (.tuple [.none]) (.tuple [oD p.hi, .str (wd p.set), .int p.by_]) = some p.noLo.d := rfl
    have i0 : ixI ((p :: r).map Pc.d).length 0 = some 0 := by simp [ixI]
    have d0 : dIx (.list ((p :: r).map Pc.d)) (.int 0) = some p.d := by simp [dIx, ixI]
    have s0 : ((p :: r).map Pc.d).set 0 p.noLo.d = (p.noLo :: r).map Pc.d := rfl
    rw [x_sIf]
    simp only [x_eOp, x_eCall, x_aCons, x_aNil, x_eVar, x_eInt, List.getElem?_cons_zero, List.getElem?_cons_succ, R.bind_ok, e1, view_d, Option.bind_some, Option.map_some, ofO_some, dEqI0, RS.test_ok, beq_self_eq_true, if_true, x_sSub, x_eTup, x_eNon, asDs_cons, asDs_nil, x_eSl, x_view_m, ml, d0, x_part1, x_part0, cut_first, ta, R.bindS_ok, i0, s0, sl]
  · refine ⟨p :: r, μ1, hc, rfl, r1, ?_⟩
    have hq2 : (q == 0) = false := by simpa using hq
    rw [x_sIf]
    simp only [x_eOp, x_eCall, x_aCons, x_aNil, x_eVar, x_eInt, List.getElem?_cons_zero, List.getElem?_cons_succ, R.bind_ok, e1, view_d, Option.bind_some, Option.map_some, ofO_some, dEqI0, RS.test_ok, hq2, x_sNil]
    rfl
theorem last_if {μ : Sto} {k : Nat} {p : Pc} {r : List Pc} {x1 x3 x4 x5 x6 x7 : Option W} (h : DrumAt μ k) (hc : ChOk (r ++ [p])) : ∃ ps μ', ChOk ps ∧ ps.length = r.length + 1 ∧ Rolled k μ μ' ∧
    sIf (eOp dEq (eCall g__law_roll (aCons (eVar 0) (aCons (eInt 6) aNil))) (eInt 0)) (sSub (eVar 2) (eUn dNeg (eInt 1)) (eOp dAdd (eTup (aCons (eOp dIx (eOp dIx (eVar 2) (eUn dNeg (eInt 1))) (eInt 0)) (aCons eNon aNil))) (eSl dCut (eOp dIx (eVar 2) (eUn dNeg (eInt 1))) (some (eInt 2)) none))) sNil
      [some (.m k), x1, some (.m μ.length), x3, x4, x5, x6, x7] (μ ++ [some (.lst ((r ++ [p]).map Pc.d))]) = .nx [some (.m k), x1, some (.m μ.length), x3, x4, x5, x6, x7] (μ' ++ [some (.lst (ps.map Pc.d))]) := by
  obtain ⟨q, μ1', ql, qh, r1', e1⟩ := roll_spec (many := 6) (h.app [some (.lst ((r ++ [p]).map Pc.d))]) (by decide) (by decide +kernel)
  obtain ⟨μ1, rfl, r1⟩ := r1'.app h.lt
  have l1 := r1.len
  have ml : mlist (μ1 ++ [some (Cell.lst ((r ++ [p]).map Pc.d))]) μ.length = some ((r ++ [p]).map Pc.d) := by rw [← l1]; exact ml_last _ _
  by_cases hq : q = 0
  · subst hq
    refine ⟨r ++ [p.noHi], μ1, hc.last, by simp, r1, ?_⟩
    have sl : (μ1 ++ [some (Cell.lst ((r ++ [p]).map Pc.d))]).set μ.length (some (Cell.lst ((r ++ [p.noHi]).map Pc.d))) = μ1 ++ [some (Cell.lst ((r ++ [p.noHi]).map Pc.d))] := by rw [← l1]; exact set_last _ _ _
    have ta : dAdd (.tuple [oD p.lo, .none]) (.tuple [.str (wd p.set), .int p.by_]) = some p.noHi.d := rfl
    have i0 : ixI ((r ++ [p]).map Pc.d).length (-1) = some r.length := by rw [List.length_map, List.length_append]; exact ixI_last _
    have d0 : dIx (.list ((r ++ [p]).map Pc.d)) (.int (-1)) = some p.d := by rw [List.map_append]; exact ixL _ _
    have s0 : ((r ++ [p]).map Pc.d).set r.length p.noHi.d = (r ++ [p.noHi]).map Pc.d := by simp
    rw [x_sIf]
    simp only [x_eOp, x_eUn, x_negI, x_eCall, x_aCons, x_aNil, x_eVar, x_eInt, List.getElem?_cons_zero, List.getElem?_cons_succ, R.bind_ok, e1, view_d, Option.bind_some, Option.map_some, ofO_some, dEqI0, RS.test_ok, beq_self_eq_true, if_true, x_sSub, x_eTup, x_eNon, asDs_cons, asDs_nil, x_eSl, x_view_m, ml, d0, ix_lo, x_part1, x_part0, cut_last, ta, R.bindS_ok, i0, s0, sl]
  · refine ⟨r ++ [p], μ1, hc, by simp, r1, ?_⟩
    have hq2 : (q == 0) = false := by simpa using hq
    rw [x_sIf]
    simp only [x_eOp, x_eCall, x_aCons, x_aNil, x_eVar, x_eInt, List.getElem?_cons_zero, List.getElem?_cons_succ, R.bind_ok, e1, view_d, Option.bind_some, Option.map_some, ofO_some, dEqI0, RS.test_ok, hq2, x_sNil]
    rfl
theorem change_spec {μ : Sto} {k : Nat} {most : Int} (h : DrumAt μ k) (hm : 0 < most) (hm2 : most ≤ 1000) :
    ∃ ps μ', ChOk ps ∧ ps.length ≤ 3 ∧ Rolled k μ μ' ∧ g__law_change [.m k, .d (.int most)] μ = .ok (.d (.tuple (ps.map Pc.d))) μ' := by
  have hk := h.lt
  obtain ⟨q1, μ1', q1l, q1h, r1', e1⟩ := roll_spec (many := 8) (h.app [some (.lst [])]) (by decide) (by decide)
  obtain ⟨μ1, rfl, r1⟩ := r1'.app hk
  have h1 := r1.at_ hk
  have k1 := h1.lt
  obtain ⟨q2, μ2', q2l, q2h, r2', e2⟩ := roll_spec (many := 3) (h1.app [some (.lst [])]) (by decide) (by decide)
  obtain ⟨μ2, rfl, r2⟩ := r2'.app k1
  have h2 := r2.at_ k1
  have k2 := h2.lt
  have l2 : μ2.length = μ.length := by rw [r2.len, r1.len]
  rw [show g__law_change = fnOf 2 8 F__law_change from rfl, fnOf2]
  unfold F__law_change
  rw [x_sSeq, x_sPar]
  simp only [List.map_cons, List.map_nil, List.length_cons, List.length_nil, x_eLstM, x_aNil, R.bind_ok, asDs_nil, R.bindS_ok, x_eOp, x_eUn, x_eInt, view_d, Option.bind_some, Option.map_some, ofO_some, x_negI, x_eCall, x_aCons, x_eVar,
    List.replicate, Nat.reduceSub, List.cons_append, List.nil_append, List.getElem?_cons_zero, List.getElem?_cons_succ, e1, x_addI, List.set_cons_zero, List.set_cons_succ]
  rw [x_sSeq, x_sFor, x_iRange1]
  simp only [x_eOp, x_eInt, x_eCall, x_aCons, x_aNil, x_eVar, List.getElem?_cons_zero, R.bind_ok, view_d, Option.bind_some, Option.map_some, ofO_some, e2, x_addI]
  have hr : -(LIM : Int) ≤ 1 + q2 ∧ 1 + q2 ≤ LIM := by unfold LIM; omega
  rw [if_pos hr, R.bindS_ok]
  obtain ⟨ρ3, μ3, e3, ps, low, μ4, x4, x5, x6, x7, rfl, rfl, hlen, hrow, hlo, hhi, r4⟩ := forL_count (t := tName 4) (B := (sSeq (sAsg 5 (eOp dAdd (eVar 3) (eCall g__law_some (aCons (eVar 0) (aCons (eLst (aCons (eInt 0) (aCons (eInt 2) (aCons (eInt 5) (aCons (eInt 9) (aCons (eInt 14) aNil)))))) aNil)))))
    (sSeq (sAsg 6 (eCall g__law_some (aCons (eVar 0) (aCons (eLst (aCons (eStr "add") (aCons (eStr "add") (aCons (eStr "add") (aCons (eStr "set") aNil))))) aNil))))
    (sSeq (sAsg 7 (eIf (eOp dEq (eVar 6) (eStr "add")) (eOp dMul (eCall g__law_some (aCons (eVar 0) (aCons (eLst (aCons (eUn dNeg (eInt 1)) (aCons (eInt 1) (aCons (eInt 1) aNil)))) aNil))) (eOp dAdd (eInt 1) (eCall g__law_roll (aCons (eVar 0) (aCons (eVar 1) aNil))))) (eOp dAdd (eUn dNeg (eInt 22)) (eCall g__law_roll (aCons (eVar 0) (aCons (eInt 64) aNil))))))
    (sSeq (sDrop (eApp (eVar 2) (eTup (aCons (eVar 3) (aCons (eVar 5) (aCons (eVar 6) (aCons (eVar 7) aNil)))))))
    (sAsg 3 (eOp dAdd (eOp dAdd (eVar 5) (eInt 1)) (eCall g__law_some (aCons (eVar 0) (aCons (eLst (aCons (eInt 0) (aCons (eInt 0) (aCons (eInt 1) (aCons (eInt 4) aNil)))))  aNil)))))))))) (fun i ρ ν => ∃ ps low μ4 x4 x5 x6 x7, ρ = [some (.m k), some (.d (.int most)), some (.m μ.length), some (.d (.int low)), x4, x5, x6, x7] ∧ ν = μ4 ++ [some (.lst (ps.map Pc.d))] ∧
      ps.length = i ∧ Row ps low ∧ -20 ≤ low ∧ low ≤ -12 + 19 * i ∧ Rolled k μ μ4) 3 (rangeD 0 (1 + q2)) 0 [some (.m k), some (.d (.int most)), some (.m μ.length), some (.d (.int (-20 + q1))), none, none, none, none] (μ2 ++ [some (.lst [])]) (by rw [x_rangeD_len]; omega)
    ⟨[], -20 + q1, μ2, _, _, _, _, rfl, rfl, rfl, ⟨fun p hp => (by cases hp), True.intro, fun p hp => (by cases hp)⟩, by omega, by omega, r1.trans r2⟩ (by
      rintro i d ρ ν hi - ⟨ps, low, μ4, x4, x5, x6, x7, rfl, rfl, hl, hrow, hlo, hhi, r4⟩
      have h4 := r4.at_ hk
      have l4 := r4.len
      obtain ⟨p, low', μ5, y5, y6, y7, hrow', g1, g2, r5, e5⟩ := change_turn (x4 := some (.d d)) (x5 := x5) (x6 := x6) (x7 := x7) h4 hm hm2 (by omega) hrow hlo (by omega) (by omega) .none
      rw [l4] at e5
      exact ⟨_, rfl, _, _, e5, ps ++ [p], low', μ5, _, _, _, _, rfl, rfl, by simp [hl], hrow', by omega, by push_cast; omega, r4.trans r5⟩)
  rw [e3]
  dsimp only
  have hps : ps.length = (1 + q2).toNat := by rw [hlen, x_rangeD_len]; omega
  have h4 := r4.at_ hk
  have hch : ChOk ps := ⟨by omega, by omega, fun p hp => (hrow.all p hp).1, hrow.apart⟩
  obtain ⟨p, r, rfl⟩ : ∃ p r, ps = p :: r := by
    cases ps with
    | nil => have := hch.one; simp at this
    | cons p r => exact ⟨p, r, rfl⟩
  obtain ⟨ps5, μ5, hc5, hl5, r5, e5⟩ := first_if (x1 := some (.d (.int most))) (x3 := some (.d (.int low))) (x4 := x4) (x5 := x5) (x6 := x6) (x7 := x7) h4 hch
  have l4 := r4.len
  rw [l4] at e5
  rw [x_sSeq, e5]
  dsimp only
  have h5 := r5.at_ h4.lt
  obtain ⟨r', p', rfl⟩ : ∃ r' p', ps5 = r' ++ [p'] := by
    have hne : ps5 ≠ [] := fun e => by rw [e] at hl5; cases hl5
    exact ⟨ps5.dropLast, ps5.getLast hne, (List.dropLast_concat_getLast hne).symm⟩
  obtain ⟨ps6, μ6, hc6, hl6, r6, e6⟩ := last_if (x1 := some (.d (.int most))) (x3 := some (.d (.int low))) (x4 := x4) (x5 := x5) (x6 := x6) (x7 := x7) h5 hc5
  rw [r5.len, l4] at e6
  rw [x_sSeq, e6]
  dsimp only
  have l6 : μ6.length = μ.length := by rw [r6.len, r5.len, l4]
  have ml : mlist (μ6 ++ [some (Cell.lst (ps6.map Pc.d))]) μ.length = some (ps6.map Pc.d) := by rw [← l6]; exact ml_last _ _
  refine ⟨ps6, μ6, hc6, ?_, (r4.trans r5).trans r6, ?_⟩
  · simp at hl5 hps
    omega
  · rw [← l6] at ml
    simp [ml, bTup, fin, ← l6]
end Pure

set_option linter.all false
set_option Elab.async false
set_option maxRecDepth 100000
set_option maxHeartbeats 1000000
/-! The plain law: what the program's checks answer, of any data. -/
namespace Pure
open PySem Mi Mir
def wholeD (d : D) (lo hi : Int) : Bool := match d with
  | .int v => decide (lo ≤ v) && decide (v ≤ hi)
  | _ => false
theorem whole_spec (d : D) (lo hi : Int) (μ : Sto) : g_is_whole [.d d, .d (.int lo), .d (.int hi)] μ = .ok (.d (.bool (wholeD d lo hi))) μ := by
  rw [show g_is_whole = fnOf 3 3 F_is_whole from rfl, fnOf3]
  have e : ∀ b : Bool, fin μ.length (.rt (.d (.bool b)) μ) = .ok (.d (.bool b)) μ := fun b => x_fin _ _ _ rfl
  cases d <;> simp [F_is_whole, isTy, wholeD, e]
  rename_i v
  by_cases h1 : lo ≤ v <;> simp [h1, e]
def isNonD : D → Bool
  | .none => true
  | _ => false
theorem isNonW_d (d : D) : isNonW (.d d) = isNonD d := by cases d <;> rfl
def endD (d : D) : Bool := isNonD d || wholeD d (-far) far
theorem end_spec (d : D) (μ : Sto) : g_is_end [.d d] μ = .ok (.d (.bool (endD d))) μ := by
  rw [show g_is_end = fnOf 1 1 F_is_end from rfl, fnOf1]
  have e : ∀ b : Bool, fin μ.length (.rt (.d (.bool b)) μ) = .ok (.d (.bool b)) μ := fun b => x_fin _ _ _ rfl
  have w := whole_spec d (-far) far μ
  unfold far at w
  cases h : isNonD d <;> simp [F_is_end, isNonW_d, endD, e, h, w, far]
def leD : D → D → Bool
  | .int a, .int b => decide (a ≤ b)
  | _, _ => false
def endsD (l h : D) : Bool := endD l && (endD h && (isNonD l || (isNonD h || leD l h)))
theorem end_int {d : D} (h : endD d = true) (n : isNonD d = false) : ∃ i, d = .int i ∧ -far ≤ i ∧ i ≤ far := by
  unfold endD at h
  rw [n] at h
  cases d <;> simp [wholeD] at h
  exact ⟨_, rfl, h.1, h.2⟩
theorem ends_spec (l h : D) (μ : Sto) : g_are_ends [.d l, .d h] μ = .ok (.d (.bool (endsD l h))) μ := by
  rw [show g_are_ends = fnOf 2 2 F_are_ends from rfl, fnOf2]
  have e : ∀ b : Bool, fin μ.length (.rt (.d (.bool b)) μ) = .ok (.d (.bool b)) μ := fun b => x_fin _ _ _ rfl
  cases h1 : endD l with
  | false => simp [F_are_ends, end_spec, h1, endsD, e]
  | true =>
    cases h2 : endD h with
    | false => simp [F_are_ends, end_spec, h1, h2, endsD, e]
    | true =>
      cases h3 : isNonD l with
      | true => simp [F_are_ends, end_spec, h1, h2, isNonW_d, h3, endsD, e]
      | false =>
        cases h4 : isNonD h with
        | true => simp [F_are_ends, end_spec, h1, h2, isNonW_d, h3, h4, endsD, e]
        | false =>
          obtain ⟨i, rfl, _⟩ := end_int h1 h3
          obtain ⟨j, rfl, _⟩ := end_int h2 h4
          simp [F_are_ends, end_spec, h1, h2, endsD, leD, e, isNonD]
def nzD : D → Bool
  | .int v => !(v == 0)
  | _ => false
def pieceD : D → Bool
  | .tuple [l, h, .str w, b] => endsD l h && (wholeD b (-far) far && (w == "set" || (w == "add" && nzD b)))
  | _ => false
theorem whole_int {d : D} {lo hi : Int} (h : wholeD d lo hi = true) : ∃ i, d = .int i ∧ lo ≤ i ∧ i ≤ hi := by
  cases d <;> simp [wholeD] at h
  exact ⟨_, rfl, h.1, h.2⟩
theorem sh_set : SeqAt.shaped (.str "set") = true := by kernel_rfl
theorem sh_add : SeqAt.shaped (.str "add") = true := by kernel_rfl
theorem ix4_0 (a : D) (l : List D) : dIx (.tuple (a :: l)) (.int 0) = some a := by simp [dIx, ixI]
theorem ixN (l : List D) (n : Nat) (h : n < l.length) : dIx (.tuple l) (.int (n : Int)) = some l[n] := by simp [dIx, ixI, h]
theorem piece_spec (d : D) (hs : SeqAt.shaped d = true) (μ : Sto) : g_is_piece [.d d] μ = .ok (.d (.bool (pieceD d))) μ := by
  rw [show g_is_piece = fnOf 1 1 F_is_piece from rfl, fnOf1]
  have e : ∀ b : Bool, fin μ.length (.rt (.d (.bool b)) μ) = .ok (.d (.bool b)) μ := fun b => x_fin _ _ _ rfl
  cases d with
  | tuple l =>
    match l, hs with
    | [], _ => simp [F_is_piece, isTy, bLen, dNeI, pieceD, e]
    | [_], _ => simp [F_is_piece, isTy, bLen, dNeI, pieceD, e]
    | [_, _], _ => simp [F_is_piece, isTy, bLen, dNeI, pieceD, e]
    | [_, _, _], _ => simp [F_is_piece, isTy, bLen, dNeI, pieceD, e]
    | a :: b :: c :: f :: g :: r, _ =>
      have hl : ((r.length : Int) + 1 + 1 + 1 + 1 + 1 == 4) = false := by
        rw [beq_eq_false_iff_ne]; omega
      simp [F_is_piece, isTy, bLen, dNeI, pieceD, e, hl]
    | [a, b, c, f], hs =>
      have i0 : dIx (.tuple [a, b, c, f]) (.int 0) = some a := rfl
      have i1 : dIx (.tuple [a, b, c, f]) (.int 1) = some b := rfl
      have i2 : dIx (.tuple [a, b, c, f]) (.int 2) = some c := rfl
      have i3 : dIx (.tuple [a, b, c, f]) (.int 3) = some f := rfl
      have w := whole_spec f (-far) far μ
      unfold far at w
      cases h1 : endsD a b with
      | false => cases c <;> simp [F_is_piece, isTy, bLen, dNeI, pieceD, e, i0, i1, ends_spec, h1]
      | true =>
        cases c with
        | str x =>
          have hx := shaped_tup hs (.str x) (by simp)
          cases h2 : wholeD f (-far) far with
          | false =>
            have h2' := h2
            unfold far at h2'
            simp [F_is_piece, isTy, bLen, dNeI, pieceD, e, i0, i1, i2, i3, ends_spec, h1, w, h2, h2']
          | true =>
            have h2' := h2
            unfold far at h2'
            obtain ⟨v, rfl, _⟩ := whole_int h2
            cases h3 : (x == ("set" : Str)) <;> cases h4 : (x == ("add" : Str)) <;> simp [F_is_piece, isTy, bLen, dNeI, pieceD, e, i0, i1, i2, i3, ends_spec, h1, w, h2, h2', dEqS hx sh_set, dEqS hx sh_add, h3, h4, nzD]
        | _ => simp [F_is_piece, isTy, bLen, dNeI, pieceD, e, i0, i1, i2, ends_spec, h1]
  | _ => simp [F_is_piece, isTy, pieceD, e]
def ltD : D → D → Bool
  | .int a, .int b => decide (a < b)
  | _, _ => false
def apD : D → D → Bool
  | .tuple [_, h, _, _], .tuple [l, _, _, _] => !isNonD h && (!isNonD l && ltD h l)
  | _, _ => false
theorem piece_form {d : D} (h : pieceD d = true) : ∃ a b w c, d = .tuple [a, b, .str w, c] ∧ endsD a b = true ∧ wholeD c (-far) far = true ∧ (w = "set" ∨ w = "add" ∧ nzD c = true) := by
  unfold pieceD at h
  split at h
  · rename_i a b w c
    simp only [Bool.and_eq_true, Bool.or_eq_true, beq_iff_eq] at h
    exact ⟨a, b, w, c, rfl, h.1, h.2.1, h.2.2⟩
  · cases h
theorem ends_parts {a b : D} (h : endsD a b = true) : endD a = true ∧ endD b = true := by
  unfold endsD at h
  simp only [Bool.and_eq_true] at h
  exact ⟨h.1, h.2.1⟩
theorem apart_spec {p q : D} (hp : pieceD p = true) (hq : pieceD q = true) (μ : Sto) : g_are_apart [.d p, .d q] μ = .ok (.d (.bool (apD p q))) μ := by
  obtain ⟨a, b, w, c, rfl, he, _⟩ := piece_form hp
  obtain ⟨a', b', w', c', rfl, he', _⟩ := piece_form hq
  rw [show g_are_apart = fnOf 2 2 F_are_apart from rfl, fnOf2]
  have e : ∀ b : Bool, fin μ.length (.rt (.d (.bool b)) μ) = .ok (.d (.bool b)) μ := fun b => x_fin _ _ _ rfl
  have i1 : dIx (.tuple [a, b, .str w, c]) (.int 1) = some b := rfl
  have i0 : dIx (.tuple [a', b', .str w', c']) (.int 0) = some a' := rfl
  cases h1 : isNonD b with
  | true => simp [F_are_apart, i1, isNonW_d, h1, e, apD]
  | false =>
    cases h2 : isNonD a' with
    | true => simp [F_are_apart, i1, i0, isNonW_d, h1, h2, e, apD]
    | false =>
      obtain ⟨i, rfl, _⟩ := end_int (ends_parts he).2 h1
      obtain ⟨j, rfl, _⟩ := end_int (ends_parts he').1 h2
      simp [F_are_apart, i1, i0, e, apD, ltD, isNonD]
def apAll : List D → Bool
  | p :: q :: r => apD p q && apAll (q :: r)
  | _ => true
def fitsCh : D → Bool
  | .tuple l => (decide (1 ≤ l.length) && decide (l.length ≤ 4)) && (l.all pieceD && apAll l)
  | _ => false
theorem allB_map {α : Type} (p : α → Bool) : ∀ l : List α, allB (l.map fun d => PyData.bool (p d)) = some (l.all p)
  | [] => rfl
  | d :: r => by
    rw [List.map_cons, allB, allB_map p r]
    rfl
theorem tru (b : Bool) : (b && true) = b := by cases b <;> rfl
theorem fits_change_spec (d : D) (hs : SeqAt.shaped d = true) (μ : Sto) : g_fits_change [.d d] μ = .ok (.d (.bool (fitsCh d))) μ := by
  rw [show g_fits_change = fnOf 1 3 F_fits_change from rfl, fnOf1]
  have e : ∀ b : Bool, fin μ.length (.rt (.d (.bool b)) μ) = .ok (.d (.bool b)) μ := fun b => x_fin _ _ _ rfl
  cases d with
  | tuple l =>
    have hl : ∀ x ∈ l, SeqAt.shaped x = true := shaped_tup hs
    have lc : ∀ ρ : Mi.Env, ρ.length = 3 → lcL (tName 2) eYes (eCall g_is_piece (aCons (eVar 2) aNil)) ρ l [] μ = .ok (.d (.list (l.map fun d => .bool (pieceD d)))) μ := fun ρ hρ => by
      rw [lc_map (fun d => .bool (pieceD d)) l [] fun d hd => ⟨ρ.set 2 (some (.d d)), rfl, rfl, ?_⟩]
      · rfl
      · simp [hρ, piece_spec d (hl d hd)]
    by_cases h1 : 1 ≤ l.length
    · by_cases h4 : l.length ≤ 4
      · have b1 : (1 : Int) ≤ l.length := by omega
        have b4 : (l.length : Int) ≤ 4 := by omega
        cases hp : l.all pieceD with
        | false =>
          simp [F_fits_change, isTy, bLen, b1, b4, items, lc, wipeE, bAll, allB_map pieceD, hp, e, fitsCh]
        | true =>
          have hp' : ∀ x ∈ l, pieceD x = true := List.all_eq_true.mp hp
          match l, h1, h4, hp', hl, hp with
          | [a], _, _, hp', hl', hp =>
            have pa := hp' a (by simp)
            have qa := piece_spec a (hl' a (by simp)) μ
            rw [pa] at qa
            simp [F_fits_change, isTy, bLen, items, qa, wipeE, bAll, hp, e, fitsCh, apAll, rangeD, LIM, lcL, allB, pa]
          | [a, b], _, _, hp', hl', hp =>
            have pa := hp' a (by simp)
            have qa := piece_spec a (hl' a (by simp)) μ
            rw [pa] at qa
            have pb := hp' b (by simp)
            have qb := piece_spec b (hl' b (by simp)) μ
            rw [pb] at qb
            have r1 : rangeD 0 1 = [.int 0] := rfl
            have i0 : dIx (.tuple [a, b]) (.int 0) = some a := rfl
            have i1 : dIx (.tuple [a, b]) (.int 1) = some b := rfl
            simp [F_fits_change, isTy, bLen, items, qa, qb, wipeE, bAll, e, fitsCh, apAll, LIM, r1, lcL, allB, i0, i1, apart_spec pa pb, pa, pb]
          | [a, b, c], _, _, hp', hl', hp =>
            have pa := hp' a (by simp)
            have qa := piece_spec a (hl' a (by simp)) μ
            rw [pa] at qa
            have pb := hp' b (by simp)
            have qb := piece_spec b (hl' b (by simp)) μ
            rw [pb] at qb
            have pc := hp' c (by simp)
            have qc := piece_spec c (hl' c (by simp)) μ
            rw [pc] at qc
            have r1 : rangeD 0 2 = [.int 0, .int 1] := rfl
            have i0 : dIx (.tuple [a, b, c]) (.int 0) = some a := rfl
            have i1 : dIx (.tuple [a, b, c]) (.int 1) = some b := rfl
            have i2 : dIx (.tuple [a, b, c]) (.int 2) = some c := rfl
            simp [F_fits_change, isTy, bLen, items, qa, qb, qc, wipeE, bAll, e, fitsCh, apAll, LIM, r1, lcL, allB, i0, i1, i2, apart_spec pa pb, apart_spec pb pc, pa, pb, pc]
          | [a, b, c, d], _, _, hp', hl', hp =>
            have pa := hp' a (by simp)
            have qa := piece_spec a (hl' a (by simp)) μ
            rw [pa] at qa
            have pb := hp' b (by simp)
            have qb := piece_spec b (hl' b (by simp)) μ
            rw [pb] at qb
            have pc := hp' c (by simp)
            have qc := piece_spec c (hl' c (by simp)) μ
            rw [pc] at qc
            have pd := hp' d (by simp)
            have qd := piece_spec d (hl' d (by simp)) μ
            rw [pd] at qd
            have r1 : rangeD 0 3 = [.int 0, .int 1, .int 2] := rfl
            have i0 : dIx (.tuple [a, b, c, d]) (.int 0) = some a := rfl
            have i1 : dIx (.tuple [a, b, c, d]) (.int 1) = some b := rfl
            have i2 : dIx (.tuple [a, b, c, d]) (.int 2) = some c := rfl
            have i3 : dIx (.tuple [a, b, c, d]) (.int 3) = some d := rfl
            simp [F_fits_change, isTy, bLen, items, qa, qb, qc, qd, wipeE, bAll, e, fitsCh, apAll, LIM, r1, lcL, allB, i0, i1, i2, i3, apart_spec pa pb, apart_spec pb pc, apart_spec pc pd, pa, pb, pc, pd]
      · have b1 : (1 : Int) ≤ l.length := by omega
        have b4 : ¬ (l.length : Int) ≤ 4 := by omega
        simp [F_fits_change, isTy, bLen, b1, b4, e, fitsCh, h4]
    · have h0 : l = [] := List.length_eq_zero_iff.mp (by omega)
      subst h0
      simp [F_fits_change, isTy, bLen, e, fitsCh]
  | _ => simp [F_fits_change, isTy, fitsCh, e]
def endsL : List D → Bool
  | [l, h] => endsD l h
  | _ => false
def walkD : D → Bool
  | .tuple (.str w :: r) => if w == "first" || w == "place" then r.isEmpty else if w == "up" || w == "down" then endsL r else false
  | _ => false
theorem eqvS (x y : Str) : PyData.eqv (.str x) (.str y) = (x == y) := rfl
theorem in_fp (w : Str) : dIn (.str w) (.tuple [.str "first", .str "place"]) = some (.bool (("first" : Str) == w || ("place" : Str) == w)) := by
  simp [dIn, flatD, eqvS]
theorem notin_all (w : Str) : dNotIn (.str w) (.tuple [.str "up", .str "down", .str "first", .str "place"]) = some (.bool (!(("up" : Str) == w || (("down" : Str) == w || (("first" : Str) == w || ("place" : Str) == w))))) := by
  simp [dNotIn, dIn, flatD, eqvS]
theorem sh_nil : SeqAt.shaped (.tuple []) = true := rfl
theorem len_one (r : List D) : ((r.length : Int) + 1 == 1) = r.isEmpty := by
  cases r with
  | nil => rfl
  | cons a t =>
    rw [beq_eq_false_iff_ne.mpr]
    · rfl
    · rw [List.length_cons]; omega
theorem walk_spec (d : D) (hs : SeqAt.shaped d = true) (μ : Sto) : g_is_walk [.d d] μ = .ok (.d (.bool (walkD d))) μ := by
  rw [show g_is_walk = fnOf 1 1 F_is_walk from rfl, fnOf1]
  have e : ∀ b : Bool, fin μ.length (.rt (.d (.bool b)) μ) = .ok (.d (.bool b)) μ := fun b => x_fin _ _ _ rfl
  cases d with
  | tuple l =>
    have q := dEqD hs sh_nil
    match l, hs, q with
    | [], _, q => 
      have q2 : dEq (.tuple []) (.tuple []) = some (.bool true) := q
      simp [F_is_walk, isTy, q2, walkD, e]
    | a :: r, hs, q =>
      have q2 : dEq (.tuple (a :: r)) (.tuple []) = some (.bool false) := q
      have i0 : dIx (.tuple (a :: r)) (.int 0) = some a := ix4_0 a r
      cases a with
      | str w =>
        by_cases w1 : w = "first"
        · subst w1
          have n1 : dNotIn (.str "first") (.tuple [.str "up", .str "down", .str "first", .str "place"]) = some (.bool false) := by kernel_rfl
          have n2 : dIn (.str "first") (.tuple [.str "first", .str "place"]) = some (.bool true) := by kernel_rfl
          have n3 : walkD (.tuple (.str "first" :: r)) = r.isEmpty := rfl
          rw [n3]
          simp [F_is_walk, isTy, q2, i0, n1, n2, bLen, dEqI, len_one, e]
        · by_cases w2 : w = "place"
          · subst w2
            have n1 : dNotIn (.str "place") (.tuple [.str "up", .str "down", .str "first", .str "place"]) = some (.bool false) := by kernel_rfl
            have n2 : dIn (.str "place") (.tuple [.str "first", .str "place"]) = some (.bool true) := by kernel_rfl
            have n3 : walkD (.tuple (.str "place" :: r)) = r.isEmpty := rfl
            rw [n3]
            simp [F_is_walk, isTy, q2, i0, n1, n2, bLen, dEqI, len_one, e]
          · by_cases w34 : w = "up" ∨ w = "down"
            · have n1 : dNotIn (.str w) (.tuple [.str "up", .str "down", .str "first", .str "place"]) = some (.bool false) := by
                rcases w34 with rfl | rfl <;> kernel_rfl
              have n2 : dIn (.str w) (.tuple [.str "first", .str "place"]) = some (.bool false) := by
                rcases w34 with rfl | rfl <;> kernel_rfl
              have n3 : walkD (.tuple (.str w :: r)) = endsL r := by
                rcases w34 with rfl | rfl <;> rfl
              rw [n3]
              match r, hs, i0, q2 with
              | [], _, i0, q2 => simp [F_is_walk, isTy, q2, i0, n1, n2, endsL, bLen, dEqI, e]
              | [_], _, i0, q2 => simp [F_is_walk, isTy, q2, i0, n1, n2, endsL, bLen, dEqI, e]
              | [l, h], _, i0, q2 =>
                have i1 : dIx (.tuple [.str w, l, h]) (.int 1) = some l := rfl
                have i2 : dIx (.tuple [.str w, l, h]) (.int 2) = some h := rfl
                simp [F_is_walk, isTy, q2, i0, i1, i2, n1, n2, endsL, bLen, dEqI, e, ends_spec]
              | _ :: _ :: _ :: t, _, i0, q2 =>
                have hl : ((t.length : Int) + 1 + 1 + 1 + 1 == 3) = false := by rw [beq_eq_false_iff_ne]; omega
                simp [F_is_walk, isTy, q2, i0, n1, n2, endsL, bLen, dEqI, e, hl]
            · have n1 : dNotIn (.str w) (.tuple [.str "up", .str "down", .str "first", .str "place"]) = some (.bool true) := by
                rw [notin_all]
                simp only [not_or] at w34
                simp [beq_eq_false_iff_ne.mpr (Ne.symm w1), beq_eq_false_iff_ne.mpr (Ne.symm w2), beq_eq_false_iff_ne.mpr (Ne.symm w34.1), beq_eq_false_iff_ne.mpr (Ne.symm w34.2)]
              have n3 : walkD (.tuple (.str w :: r)) = false := by
                simp only [not_or] at w34
                simp [walkD, w1, w2, w34.1, w34.2]
              rw [n3]
              simp [F_is_walk, isTy, q2, i0, n1, e]
      | _ => simp [F_is_walk, isTy, q2, i0, walkD, e]
  | _ => simp [F_is_walk, isTy, walkD, e]
/-- one_way, of pieces -/
def isAdd : D → Bool
  | .tuple [_, _, .str w, _] => w == "add"
  | _ => false
def upD : D → Bool
  | .tuple [_, _, _, .int v] => decide (0 < v)
  | _ => false
def onewayL (l : List D) : Bool := !((l.filter isAdd).any upD) || !((l.filter isAdd).any fun d => !upD d)
theorem onewayB (l : List D) (h : ∀ d ∈ l, pieceD d = true) (hs : ∀ x ∈ l, SeqAt.shaped x = true) (μ : Sto) : g_one_way [.d (.tuple l)] μ = .ok (.d (.bool (onewayL l))) μ := by
  rw [show g_one_way = fnOf 1 3 F_one_way from rfl, fnOf1]
  have e : ∀ b : Bool, fin μ.length (.rt (.d (.bool b)) μ) = .ok (.d (.bool b)) μ := fun b => x_fin _ _ _ rfl
  have lc : ∀ ρ : Mi.Env, ρ.length = 3 → lcL (tName 2) (eOp dEq (eOp dIx (eVar 2) (eInt 2)) (eStr "add")) (eOp dGt (eOp dIx (eVar 2) (eInt 3)) (eInt 0)) ρ l [] μ = .ok (.d (.list ((l.filter isAdd).map fun d => .bool (upD d)))) μ := fun ρ hρ => by
    rw [lc_filter isAdd (fun d => .bool (upD d)) l [] fun d hd => ⟨ρ.set 2 (some (.d d)), rfl, ?_, fun _ => ?_⟩]
    · rfl
    · obtain ⟨a, b, w, c, rfl, _, _⟩ := piece_form (h d hd)
      have i2 : dIx (.tuple [a, b, .str w, c]) (.int 2) = some (.str w) := rfl
      have hw := shaped_tup (hs _ hd) (.str w) (by simp)
      simp [hρ, i2, dEqS hw sh_add, isAdd]
    · obtain ⟨a, b, w, c, rfl, _, hc, _⟩ := piece_form (h d hd)
      obtain ⟨v, rfl, _⟩ := whole_int hc
      have i3 : dIx (.tuple [a, b, .str w, .int v]) (.int 3) = some (.int v) := rfl
      simp [hρ, i3, upD]
  have fl : ((l.filter isAdd).map fun d => PyData.bool (upD d)).all flatD = true := by simp [flatD]
  have c1 : ((fun y => PyData.eqv y (.bool true)) ∘ fun d => PyData.bool (upD d)) = upD := funext fun d => by
    show (upD d == true) = upD d
    cases upD d <;> rfl
  have c2 : ((fun y => PyData.eqv y (.bool false)) ∘ fun d => PyData.bool (upD d)) = fun d => !upD d := funext fun d => by
    show (upD d == false) = !upD d
    cases upD d <;> rfl
  have n1 : dNotIn (.bool true) (.list ((l.filter isAdd).map fun d => .bool (upD d))) = some (.bool (!((l.filter isAdd).any upD))) := by
    have q : dIn (.bool true) (.list ((l.filter isAdd).map fun d => .bool (upD d))) = some (.bool ((l.filter isAdd).any upD)) := by
      rw [dIn, if_pos ⟨rfl, fl⟩, List.any_map, c1]
    rw [dNotIn, q]
  have n2 : dNotIn (.bool false) (.list ((l.filter isAdd).map fun d => .bool (upD d))) = some (.bool (!((l.filter isAdd).any fun d => !upD d))) := by
    have q : dIn (.bool false) (.list ((l.filter isAdd).map fun d => .bool (upD d))) = some (.bool ((l.filter isAdd).any fun d => !upD d)) := by
      rw [dIn, if_pos ⟨rfl, fl⟩, List.any_map, c2]
    rw [dNotIn, q]
  cases h1 : (l.filter isAdd).any upD <;> simp [F_one_way, items, lc, wipeE, n1, n2, e, h1, onewayL]
def isPlace : D → Bool
  | .tuple (.str w :: _) => w == "place"
  | _ => false
def fitsSt : D → Bool
  | .tuple [.tuple l, w] => fitsCh (.tuple l) && (walkD w && (!isPlace w || onewayL l))
  | _ => false
theorem sh_place : SeqAt.shaped (.str "place") = true := by kernel_rfl
theorem fits_statement_spec (d : D) (hs : SeqAt.shaped d = true) (μ : Sto) : g_fits_statement [.d d] μ = .ok (.d (.bool (fitsSt d))) μ := by
  rw [show g_fits_statement = fnOf 1 1 F_fits_statement from rfl, fnOf1]
  have e : ∀ b : Bool, fin μ.length (.rt (.d (.bool b)) μ) = .ok (.d (.bool b)) μ := fun b => x_fin _ _ _ rfl
  cases d with
  | tuple l =>
    match l, hs with
    | [], _ => simp [F_fits_statement, isTy, bLen, dNeI, fitsSt, e]
    | [_], _ => simp [F_fits_statement, isTy, bLen, dNeI, fitsSt, e]
    | a :: b :: c :: r, _ =>
      have hl : ((r.length : Int) + 1 + 1 + 1 == 2) = false := by rw [beq_eq_false_iff_ne]; omega
      simp [F_fits_statement, isTy, bLen, dNeI, fitsSt, e, hl]
    | [c, w], hs =>
      have i0 : dIx (.tuple [c, w]) (.int 0) = some c := rfl
      have i1 : dIx (.tuple [c, w]) (.int 1) = some w := rfl
      have hc := shaped_tup hs c (by simp)
      have hw := shaped_tup hs w (by simp)
      have f1 := fits_change_spec c hc μ
      have f2 := walk_spec w hw μ
      cases h1 : fitsCh c with
      | false =>
        rw [h1] at f1
        have z : fitsSt (.tuple [c, w]) = false := by cases c <;> simp [fitsSt, h1]
        rw [z]
        simp [F_fits_statement, isTy, bLen, dNeI, e, i0, f1]
      | true =>
        rw [h1] at f1
        obtain ⟨l, rfl, hl⟩ : ∃ l, c = .tuple l ∧ ∀ x ∈ l, pieceD x = true := by
          cases c <;> simp [fitsCh] at h1
          exact ⟨_, rfl, h1.2.1⟩
        cases h2 : walkD w with
        | false =>
          rw [h2] at f2
          simp [F_fits_statement, isTy, bLen, dNeI, e, i0, i1, f1, f2, fitsSt, h2]
        | true =>
          rw [h2] at f2
          obtain ⟨x, r, rfl⟩ : ∃ x r, w = .tuple (.str x :: r) := by
            unfold walkD at h2
            split at h2
            · exact ⟨_, _, rfl⟩
            · cases h2
          have hx := shaped_tup hw (.str x) (by simp)
          have j0 : dIx (.tuple (.str x :: r)) (.int 0) = some (.str x) := ix4_0 _ r
          have ow := onewayB l hl (shaped_tup hc) μ
          cases h3 : (x == ("place" : Str)) <;> simp [F_fits_statement, isTy, bLen, dNeI, e, i0, i1, f1, f2, fitsSt, h1, h2, j0, dNeS hx sh_place, h3, isPlace, ow]
  | _ => simp [F_fits_statement, isTy, fitsSt, e]
end Pure

set_option linter.all false
set_option Elab.async false
set_option maxRecDepth 100000
set_option maxHeartbeats 1000000
/-! The plain law: the statements that the law makes up. -/
namespace Pure
open PySem Mi Mir
inductive Wk where
  | first | place | way (up : Bool) (lo hi : Option Int)
def wayS (b : Bool) : Str := if b then "up" else "down"
def Wk.d : Wk → D
  | .first => .tuple [.str "first"]
  | .place => .tuple [.str "place"]
  | .way u lo hi => .tuple [.str (wayS u), oD lo, oD hi]
structure St where
  ps : List Pc
  wk : Wk
def St.d (s : St) : D := .tuple [.tuple (s.ps.map Pc.d), s.wk.d]
def OneWay (ps : List Pc) : Prop := (∀ p ∈ ps, p.set = false → 0 < p.by_) ∨ (∀ p ∈ ps, p.set = false → p.by_ ≤ 0)
def WkOk (ps : List Pc) : Wk → Prop
  | .first => True
  | .place => OneWay ps
  | .way _ lo hi => EndOk lo ∧ EndOk hi ∧ ∀ i j, lo = some i → hi = some j → i ≤ j
structure StOk (s : St) : Prop where
  ch : ChOk s.ps
  wk : WkOk s.ps s.wk
theorem endD_o {o : Option Int} (h : EndOk o) : endD (oD o) = true := by
  cases o with
  | none => rfl
  | some i =>
    obtain ⟨h1, h2⟩ := h i rfl
    simp [endD, isNonD, wholeD, h1, h2]
theorem endsD_o {a b : Option Int} (ha : EndOk a) (hb : EndOk b) (h : ∀ i j, a = some i → b = some j → i ≤ j) : endsD (oD a) (oD b) = true := by
  unfold endsD
  rw [endD_o ha, endD_o hb]
  cases a with
  | none => rfl
  | some i => cases b with
    | none => rfl
    | some j => simp [isNonD, leD, h i j rfl rfl]
theorem pieceD_ok {p : Pc} (h : PcOk p) : pieceD p.d = true := by
  unfold Pc.d pieceD
  dsimp only
  rw [endsD_o h.lo h.hi h.le]
  cases hs : p.set with
  | true => simp [wholeD, h.by1, h.by2, wd]
  | false => simp [wholeD, h.by1, h.by2, wd, nzD, h.add hs]
theorem apAll_ok : ∀ {ps : List Pc}, Apart ps → apAll (ps.map Pc.d) = true
  | [], _ => rfl
  | [_], _ => rfl
  | p :: q :: r, h => by
    obtain ⟨a, b, h1, h2, h3⟩ := h.1
    have e := apAll_ok h.2
    show (apD p.d q.d && apAll ((q :: r).map Pc.d)) = true
    rw [e]
    unfold Pc.d apD
    rw [h1, h2]
    simp [isNonD, ltD, h3]
theorem fitsCh_ok {ps : List Pc} (h : ChOk ps) : fitsCh (.tuple (ps.map Pc.d)) = true := by
  unfold fitsCh
  have h1 := h.one
  have h4 := h.four
  dsimp only
  rw [apAll_ok h.apart]
  have hp : (ps.map Pc.d).all pieceD = true := by
    rw [List.all_eq_true]
    intro x hx
    obtain ⟨p, hp, rfl⟩ := List.mem_map.mp hx
    exact pieceD_ok (h.all p hp)
  rw [hp]
  simp [h1, h4]
theorem isAdd_d (p : Pc) : isAdd p.d = !p.set := by
  unfold Pc.d isAdd wd
  cases p.set <;> rfl
theorem oneway_ok {ps : List Pc} (h : OneWay ps) : onewayL (ps.map Pc.d) = true := by
  unfold onewayL
  have fl : (ps.map Pc.d).filter isAdd = (ps.filter fun p => !p.set).map Pc.d := by
    rw [List.filter_map]
    congr 1
    exact List.filter_congr fun p _ => isAdd_d p
  rw [fl]
  rcases h with h | h
  · have : ((ps.filter fun p => !p.set).map Pc.d).any (fun d => !upD d) = false := by
      rw [List.any_eq_false]
      intro x hx
      obtain ⟨p, hp, rfl⟩ := List.mem_map.mp hx
      obtain ⟨hp1, hp2⟩ := List.mem_filter.mp hp
      have := h p hp1 (by simpa using hp2)
      simp [Pc.d, upD, this]
    rw [this]
    simp
  · have : ((ps.filter fun p => !p.set).map Pc.d).any upD = false := by
      rw [List.any_eq_false]
      intro x hx
      obtain ⟨p, hp, rfl⟩ := List.mem_map.mp hx
      obtain ⟨hp1, hp2⟩ := List.mem_filter.mp hp
      have := h p hp1 (by simpa using hp2)
      simp [Pc.d, upD]
      omega
    rw [this]
    simp
theorem walkD_ok {ps : List Pc} {w : Wk} (h : WkOk ps w) : walkD w.d = true := by
  cases w with
  | first => rfl
  | place => rfl
  | way u lo hi =>
    obtain ⟨h1, h2, h3⟩ := h
    cases u
    · show endsL [oD lo, oD hi] = true
      exact endsD_o h1 h2 h3
    · show endsL [oD lo, oD hi] = true
      exact endsD_o h1 h2 h3
theorem fitsSt_ok {s : St} (h : StOk s) : fitsSt s.d = true := by
  unfold St.d fitsSt
  dsimp only
  rw [fitsCh_ok h.ch, walkD_ok h.wk]
  obtain ⟨ps, w⟩ := s
  cases w with
  | first => rfl
  | place => simp [Wk.d, isPlace, oneway_ok h.wk]
  | way u lo hi => cases u <;> rfl
/-! shapes -/
theorem canAll_of {l : List D} (h : ∀ x ∈ l, x.canLay0 = true) : PyData.canLayAll0 l = true := by
  induction l with
  | nil => rfl
  | cons x r ih =>
    rw [PyData.canLayAll0, h x List.mem_cons_self, ih fun y hy => h y (List.mem_cons_of_mem _ hy)]
    rfl
theorem depthAll_of {l : List D} {n : Nat} (h : ∀ x ∈ l, x.depth ≤ n) : PyData.depthAll l ≤ n := by
  induction l with
  | nil => rw [PyData.depthAll]; exact Nat.zero_le _
  | cons x r ih =>
    rw [PyData.depthAll]
    exact Nat.max_le.mpr ⟨h x List.mem_cons_self, ih fun y hy => h y (List.mem_cons_of_mem _ hy)⟩
structure Sh (n : Nat) (d : D) : Prop where
  can : d.canLay0 = true
  dep : d.depth ≤ n
theorem Sh.shaped {n : Nat} {d : D} (h : Sh n d) (hn : n ≤ 64) : SeqAt.shaped d = true := shaped_iff.mpr ⟨h.can, Nat.le_trans h.dep hn⟩
theorem Sh.tup {n : Nat} {l : List D} (h : ∀ x ∈ l, Sh n x) : Sh (n + 1) (.tuple l) := by
  refine ⟨?_, ?_⟩
  · rw [PyData.canLay0]; exact canAll_of fun x hx => (h x hx).can
  · rw [PyData.depth]; have := depthAll_of fun x hx => (h x hx).dep; omega
theorem Sh.lst {n : Nat} {l : List D} (h : ∀ x ∈ l, Sh n x) : Sh (n + 1) (.list l) := by
  refine ⟨?_, ?_⟩
  · rw [PyData.canLay0]; exact canAll_of fun x hx => (h x hx).can
  · rw [PyData.depth]; have := depthAll_of fun x hx => (h x hx).dep; omega
theorem Sh.mono {m n : Nat} {d : D} (h : Sh m d) (hn : m ≤ n) : Sh n d := ⟨h.can, Nat.le_trans h.dep hn⟩
theorem sh_int (i : Int) : Sh 0 (.int i) := ⟨rfl, Nat.le_refl _⟩
theorem sh_none : Sh 0 .none := ⟨rfl, Nat.le_refl _⟩
theorem sh_o (o : Option Int) : Sh 0 (oD o) := by
  cases o with
  | none => exact sh_none
  | some i => exact sh_int i
theorem sh_str {x : Str} (h : SeqAt.shaped (.str x) = true) : Sh 0 (.str x) := ⟨(shaped_iff.mp h).1, Nat.le_refl _⟩
theorem sh_wd (b : Bool) : Sh 0 (.str (wd b)) := by
  cases b
  · exact sh_str sh_add
  · exact sh_str sh_set
theorem sh_up : SeqAt.shaped (.str "up") = true := by kernel_rfl
theorem sh_down : SeqAt.shaped (.str "down") = true := by kernel_rfl
theorem sh_first : SeqAt.shaped (.str "first") = true := by kernel_rfl
theorem mem4 {P : D → Prop} {a b c d : D} (ha : P a) (hb : P b) (hc : P c) (hd : P d) : ∀ x ∈ [a, b, c, d], P x := by
  intro x hx
  simp at hx
  rcases hx with rfl | rfl | rfl | rfl <;> assumption
theorem mem3' {P : D → Prop} {a b c : D} (ha : P a) (hb : P b) (hc : P c) : ∀ x ∈ [a, b, c], P x := by
  intro x hx
  simp at hx
  rcases hx with rfl | rfl | rfl <;> assumption
theorem mem2' {P : D → Prop} {a b : D} (ha : P a) (hb : P b) : ∀ x ∈ [a, b], P x := by
  intro x hx
  simp at hx
  rcases hx with rfl | rfl <;> assumption
theorem mem1' {P : D → Prop} {a : D} (ha : P a) : ∀ x ∈ [a], P x := by
  intro x hx
  simp at hx
  rw [hx]
  exact ha
theorem sh_pc (p : Pc) : Sh 1 p.d := Sh.tup (mem4 (sh_o _) (sh_o _) (sh_wd _) (sh_int _))
theorem sh_ps (ps : List Pc) : Sh 2 (.tuple (ps.map Pc.d)) := Sh.tup fun x hx => by
  obtain ⟨p, _, rfl⟩ := List.mem_map.mp hx
  exact sh_pc p
theorem sh_wk (w : Wk) : Sh 1 w.d := by
  cases w with
  | first => exact Sh.tup (mem1' (sh_str sh_first))
  | place => exact Sh.tup (mem1' (sh_str sh_place))
  | way u lo hi =>
    refine Sh.tup (mem3' ?_ (sh_o _) (sh_o _))
    cases u
    · exact sh_str sh_down
    · exact sh_str sh_up
theorem sh_st (s : St) : Sh 3 s.d := Sh.tup (mem2' (sh_ps _) ((sh_wk _).mono (by decide)))
/-! the making of statements -/
theorem ix2d (p : Pc) : dIx p.d (.int 2) = some (.str (wd p.set)) := rfl
theorem ix3d (p : Pc) : dIx p.d (.int 3) = some (.int p.by_) := rfl
theorem cut3d (p : Pc) : dCut p.d none (some 3) = some (.tuple [oD p.lo, oD p.hi, .str (wd p.set)]) := rfl
theorem eq_add (b : Bool) : dEq (.str (wd b)) (.str "add") = some (.bool (!b)) := by
  cases b
  · kernel_rfl
  · kernel_rfl
theorem add_by (p : Pc) (v : Int) : dAdd (.tuple [oD p.lo, oD p.hi, .str (wd p.set)]) (.tuple [.int v]) = some (Pc.d { p with by_ := v }) := rfl
def absI (a : Int) : Int := if a < 0 then -a else a
def Pc.absd (p : Pc) : Pc := { p with by_ := if p.set then p.by_ else absI p.by_ }
def Pc.negd (p : Pc) : Pc := { p with by_ := if p.set then p.by_ else -p.by_ }
theorem absd_ok {p : Pc} (h : PcOk p) : PcOk p.absd := by
  refine ⟨h.lo, h.hi, h.le, ?_, ?_, ?_⟩
  · show -far ≤ (if p.set then p.by_ else absI p.by_)
    have := h.by1; have := h.by2; have := far_big
    unfold absI
    split
    · exact h.by1
    · split <;> omega
  · show (if p.set then p.by_ else absI p.by_) ≤ far
    have := h.by1; have := h.by2; have := far_big
    unfold absI
    split
    · exact h.by2
    · split <;> omega
  · intro hs
    have hs : p.set = false := hs
    have := h.add hs
    show (if p.set then p.by_ else absI p.by_) ≠ 0
    rw [hs]
    unfold absI
    simp only [Bool.false_eq_true, if_false]
    split <;> omega
theorem negd_ok {p : Pc} (h : PcOk p) : PcOk p.negd := by
  refine ⟨h.lo, h.hi, h.le, ?_, ?_, ?_⟩
  · show -far ≤ (if p.set then p.by_ else -p.by_)
    have := h.by1; have := h.by2
    split <;> omega
  · show (if p.set then p.by_ else -p.by_) ≤ far
    have := h.by1; have := h.by2
    split <;> omega
  · intro hs
    have hs : p.set = false := hs
    have := h.add hs
    show (if p.set then p.by_ else -p.by_) ≠ 0
    rw [hs]
    simp only [Bool.false_eq_true, if_false]
    omega
theorem apart_map {f : Pc → Pc} (h1 : ∀ p, (f p).lo = p.lo) (h2 : ∀ p, (f p).hi = p.hi) : ∀ ps : List Pc, Apart ps → Apart (ps.map f)
  | [], _ => True.intro
  | [_], _ => True.intro
  | p :: q :: r, h => by
    obtain ⟨a, b, e1, e2, e3⟩ := h.1
    exact ⟨⟨a, b, by rw [h2]; exact e1, by rw [h1]; exact e2, e3⟩, apart_map h1 h2 (q :: r) h.2⟩
theorem ch_map {f : Pc → Pc} (h1 : ∀ p, (f p).lo = p.lo) (h2 : ∀ p, (f p).hi = p.hi) (h3 : ∀ p, PcOk p → PcOk (f p)) {ps : List Pc} (h : ChOk ps) : ChOk (ps.map f) :=
  ⟨by rw [List.length_map]; exact h.one, by rw [List.length_map]; exact h.four, fun p hp => by
    obtain ⟨q, hq, rfl⟩ := List.mem_map.mp hp
    exact h3 q (h.all q hq), apart_map h1 h2 ps h.apart⟩
theorem one_way_spec (ps : List Pc) (μ : Sto) : g__law_one_way [.d (.tuple (ps.map Pc.d))] μ = .ok (.d (.tuple ((ps.map Pc.absd).map Pc.d))) μ := by
  rw [show g__law_one_way = fnOf 1 2 F__law_one_way from rfl, fnOf1]
  have e : ∀ b : D, fin μ.length (.rt (.d b) μ) = .ok (.d b) μ := fun b => x_fin _ _ _ rfl
  have lc : ∀ ρ : Mi.Env, ρ.length = 2 → lcL (tName 1) eYes (eOp dAdd (eSl dCut (eVar 1) none (some (eInt 3))) (eTup (aCons (eIf (eOp dEq (eOp dIx (eVar 1) (eInt 2)) (eStr "add")) (eBlt bAbs (aCons (eOp dIx (eVar 1) (eInt 3)) aNil)) (eOp dIx (eVar 1) (eInt 3))) aNil))) ρ (ps.map Pc.d) [] μ = .ok (.d (.list (ps.map fun p => p.absd.d))) μ := fun ρ hρ => by
    rw [lc_mapT Pc.d (fun p => p.absd.d) ps [] fun p hp => ⟨ρ.set 1 (some (.d p.d)), rfl, rfl, ?_⟩]
    · rfl
    · obtain ⟨lo, hi, s, b⟩ := p
      have c3 := cut3d ⟨lo, hi, s, b⟩
      have c2 := ix2d ⟨lo, hi, s, b⟩
      have ab := fun v => add_by ⟨lo, hi, s, b⟩ v
      have i3 := ix3d ⟨lo, hi, s, b⟩
      cases s with
      | false =>
        simp [hρ, c3, c2, i3, eq_add, bAbs]
        rw [show (if b < 0 then -b else b) = absI b from rfl]
        rw [show dAdd (.tuple [oD lo, oD hi, .str (wd false)]) (.tuple [.int (absI b)]) = some (Pc.d ⟨lo, hi, false, absI b⟩) from rfl]
        rfl
      | true =>
        simp [hρ, c3, c2, i3, eq_add, bAbs]
        rw [show dAdd (.tuple [oD lo, oD hi, .str (wd true)]) (.tuple [.int b]) = some (Pc.d ⟨lo, hi, true, b⟩) from rfl]
        rfl
  simp [F__law_one_way, items, lc, wipeE, bTup, e]
theorem neg_lc (ps : List Pc) (μ : Sto) (ρ : Mi.Env) (hρ : ρ.length = 7) : lcL (tName 6) eYes (eOp dAdd (eSl dCut (eVar 6) none (some (eInt 3))) (eTup (aCons (eIf (eOp dEq (eOp dIx (eVar 6) (eInt 2)) (eStr "add")) (eUn dNeg (eOp dIx (eVar 6) (eInt 3))) (eOp dIx (eVar 6) (eInt 3))) aNil))) ρ (ps.map Pc.d) [] μ = .ok (.d (.list (ps.map fun p => p.negd.d))) μ := by
  rw [lc_mapT Pc.d (fun p => p.negd.d) ps [] fun p hp => ⟨ρ.set 6 (some (.d p.d)), rfl, rfl, ?_⟩]
  · rfl
  · obtain ⟨lo, hi, s, b⟩ := p
    have c3 := cut3d ⟨lo, hi, s, b⟩
    have c2 := ix2d ⟨lo, hi, s, b⟩
    have i3 := ix3d ⟨lo, hi, s, b⟩
    cases s with
    | false =>
      simp [hρ, c3, c2, i3, eq_add]
      rw [show dAdd (.tuple [oD lo, oD hi, .str (wd false)]) (.tuple [.int (-b)]) = some (Pc.d ⟨lo, hi, false, -b⟩) from rfl]
      rfl
    | true =>
      simp [hρ, c3, c2, i3, eq_add]
      rw [show dAdd (.tuple [oD lo, oD hi, .str (wd true)]) (.tuple [.int b]) = some (Pc.d ⟨lo, hi, true, b⟩) from rfl]
      rfl
theorem oneway_abs {ps : List Pc} (h : ∀ p ∈ ps, PcOk p) : OneWay (ps.map Pc.absd) := .inl fun p hp hs => by
  obtain ⟨q, hq, rfl⟩ := List.mem_map.mp hp
  have hs : q.set = false := hs
  have := (h q hq).add hs
  show 0 < (if q.set then q.by_ else absI q.by_)
  rw [hs]
  unfold absI
  simp only [Bool.false_eq_true, if_false]
  split <;> omega
theorem oneway_neg {ps : List Pc} (h : ∀ p ∈ ps, PcOk p) : OneWay ((ps.map Pc.absd).map Pc.negd) := .inr fun p hp hs => by
  obtain ⟨q, hq, rfl⟩ := List.mem_map.mp hp
  obtain ⟨q', hq', rfl⟩ := List.mem_map.mp hq
  have hs : q'.set = false := hs
  show (if q'.absd.set then q'.absd.by_ else -q'.absd.by_) ≤ 0
  have e : q'.absd.set = false := hs
  rw [e]
  show -(if q'.set then q'.by_ else absI q'.by_) ≤ 0
  rw [hs]
  unfold absI
  simp only [Bool.false_eq_true, if_false]
  split <;> omega
theorem eq_word (x y : Str) (b : Bool) (hx : SeqAt.shaped (.str x) = true) (hy : SeqAt.shaped (.str y) = true) (h : (x == y) = b) : dEq (.str x) (.str y) = some (.bool b) := by rw [dEqS hx hy, h]
theorem mem_lo {a b : Int} : bSorted [.list [.int a, .int b]] = some (.list [.int (if a ≤ b then a else b), .int (if a ≤ b then b else a)]) := by
  unfold bSorted
  simp only [intsOf, Option.map_some, isort, insI]
  split <;> rfl
theorem gt_if (q : Int) (x : Option Int) : (if (0 : Int) < q then W.d .none else W.d (oD x)) = W.d (oD (if 0 < q then none else x)) := by split <;> rfl
theorem way_case {μ : Sto} {k : Nat} {most : Int} {ps : List Pc} {μ2 : Sto} (u : Bool) (hk : k < μ.length) (hc : ChOk ps) (h2 : DrumAt μ2 k) (l2 : μ2.length = μ.length) (r2 : Rolled k μ μ2) (μ1 : Sto)
    (e1 : g__law_change [.m k, .d (.int most)] μ = .ok (.d (.tuple (ps.map Pc.d))) μ1)
    (e2 : g__law_some [.m k, .d (.list [.str "up", .str "up", .str "down", .str "down", .str "place", .str "first"])] μ1 = .ok (.d (.str (wayS u))) μ2) :
    ∃ s μ', StOk s ∧ Rolled k μ μ' ∧ fin μ.length (F__law_statement (some (.m k) :: some (.d (.int most)) :: List.replicate (7 - 2) none) μ) = .ok (.d s.d) μ' := by
  have k2 := h2.lt
  have f : ∀ (d : D) (ν : Sto), ν.length = μ.length → fin μ.length (.rt (.d d) ν) = .ok (.d d) ν := fun d ν hν => x_fin _ _ _ hν
  have n1 : dEq (.str (wayS u)) (.str "first") = some (.bool false) := by cases u <;> kernel_rfl
  have n2 : dEq (.str (wayS u)) (.str "place") = some (.bool false) := by cases u <;> kernel_rfl
  obtain ⟨a, μ3, al, ah, r3, e3⟩ := roll_spec (many := 60) h2 (by decide) (by decide +kernel)
  have h3 := r3.at_ k2
  obtain ⟨b, μ4, bl, bh, r4, e4⟩ := roll_spec (many := 60) h3 (by decide) (by decide +kernel)
  have h4 := r4.at_ h3.lt
  obtain ⟨c, μ5, cl, ch, r5, e5⟩ := roll_spec (many := 3) h4 (by decide) (by decide +kernel)
  have h5 := r5.at_ h4.lt
  obtain ⟨g, μ6, gl, gh, r6, e6⟩ := roll_spec (many := 3) h5 (by decide) (by decide +kernel)
  have l6 : μ6.length = μ.length := by rw [r6.len, r5.len, r4.len, r3.len, l2]
  have hf := far_big
  generalize hlo : (if a ≤ b then -22 + a else -22 + b) = lo
  generalize hhi : (if a ≤ b then -22 + b else -22 + a) = hi
  have b1 : -far ≤ lo ∧ lo ≤ far ∧ -far ≤ hi ∧ hi ≤ far ∧ lo ≤ hi := by
    split at hlo <;> split at hhi <;> omega
  refine ⟨⟨ps, .way u (if 0 < c then none else some lo) (if 0 < g then none else some hi)⟩, μ6, ⟨hc, ?_, ?_, ?_⟩, (((r2.trans r3).trans r4).trans r5).trans r6, ?_⟩
  · intro i hi'
    split at hi'
    · cases hi'
    · cases hi'; exact ⟨b1.1, b1.2.1⟩
  · intro i hi'
    split at hi'
    · cases hi'
    · cases hi'; exact ⟨b1.2.2.1, b1.2.2.2.1⟩
  · intro i j h1 h2
    split at h1
    · cases h1
    · split at h2
      · cases h2
      · cases h1; cases h2; exact b1.2.2.2.2
  · by_cases hc0 : 0 < c <;> by_cases hg0 : 0 < g <;> (simp [F__law_statement, e1, e2, n1, n2, e3, e4, e5, e6, mem_lo, hlo, hhi, hc0, hg0, f _ _ l6]; rfl)
theorem place_case {μ : Sto} {k : Nat} {most : Int} {ps : List Pc} {μ2 : Sto} (hk : k < μ.length) (hc : ChOk ps) (h2 : DrumAt μ2 k) (l2 : μ2.length = μ.length) (r2 : Rolled k μ μ2) (μ1 : Sto)
    (e1 : g__law_change [.m k, .d (.int most)] μ = .ok (.d (.tuple (ps.map Pc.d))) μ1)
    (e2 : g__law_some [.m k, .d (.list [.str "up", .str "up", .str "down", .str "down", .str "place", .str "first"])] μ1 = .ok (.d (.str "place")) μ2) :
    ∃ s μ', StOk s ∧ Rolled k μ μ' ∧ fin μ.length (F__law_statement (some (.m k) :: some (.d (.int most)) :: List.replicate (7 - 2) none) μ) = .ok (.d s.d) μ' := by
  have k2 := h2.lt
  have f : ∀ (d : D) (ν : Sto), ν.length = μ.length → fin μ.length (.rt (.d d) ν) = .ok (.d d) ν := fun d ν hν => x_fin _ _ _ hν
  have n1 : dEq (.str "place") (.str "first") = some (.bool false) := by kernel_rfl
  have n2 : dEq (.str "place") (.str "place") = some (.bool true) := by kernel_rfl
  obtain ⟨a, μ3, al, ah, r3, e3⟩ := roll_spec (many := 3) h2 (by decide) (by decide +kernel)
  have l3 : μ3.length = μ.length := by rw [r3.len, l2]
  have hc1 : ChOk (ps.map Pc.absd) := ch_map (f := Pc.absd) (fun _ => rfl) (fun _ => rfl) (fun _ => absd_ok) hc
  by_cases ha : a = 0
  · refine ⟨⟨(ps.map Pc.absd).map Pc.negd, .place⟩, μ3, ⟨ch_map (f := Pc.negd) (fun _ => rfl) (fun _ => rfl) (fun _ => negd_ok) hc1, oneway_neg hc.all⟩, r2.trans r3, ?_⟩
    subst ha
    have o := one_way_spec ps μ2
    have z : dEq (.int 0) (.int 0) = some (.bool true) := rfl
    have lc := fun ρ hρ => neg_lc (ps.map Pc.absd) μ3 ρ hρ
    simp [F__law_statement, e1, e2, n1, n2, e3, z]
    rw [show ps.map Pc.d = ps.map Pc.d from rfl] at o
    simp at o lc
    simp [o, items, lc, wipeE, bTup, f _ _ l3, e3, z]
    simp [St.d, Wk.d]
  · refine ⟨⟨ps.map Pc.absd, .place⟩, μ3, ⟨hc1, oneway_abs hc.all⟩, r2.trans r3, ?_⟩
    have o := one_way_spec ps μ2
    have z : dEq (.int a) (.int 0) = some (.bool false) := by rw [dEqI0, beq_eq_false_iff_ne.mpr ha]
    simp at o
    simp [F__law_statement, e1, e2, n1, n2, e3, z, o, f _ _ l3]
    simp [St.d, Wk.d]
theorem statement_spec {μ : Sto} {k : Nat} {most : Int} (h : DrumAt μ k) (hm : 0 < most) (hm2 : most ≤ 1000) :
    ∃ s μ', StOk s ∧ Rolled k μ μ' ∧ g__law_statement [.m k, .d (.int most)] μ = .ok (.d s.d) μ' := by
  have hk := h.lt
  obtain ⟨ps, μ1, hc, hl, r1, e1⟩ := change_spec h hm hm2
  have h1 := r1.at_ hk
  have k1 := h1.lt
  obtain ⟨d, μ2, hd, r2, e2⟩ := some_spec (l := [.str "up", .str "up", .str "down", .str "down", .str "place", .str "first"]) h1 (by simp) (by simp)
  have h2 := r2.at_ k1
  have k2 := h2.lt
  have f : ∀ (d : D) (ν : Sto), ν.length = μ.length → fin μ.length (.rt (.d d) ν) = .ok (.d d) ν := fun d ν hν => x_fin _ _ _ hν
  have l2 : μ2.length = μ.length := by rw [r2.len, r1.len]
  rw [show g__law_statement = fnOf 2 7 F__law_statement from rfl, fnOf2]
  simp at hd
  rcases hd with rfl | rfl | rfl | rfl
  · exact way_case true hk hc h2 l2 (r1.trans r2) μ1 e1 e2
  · exact way_case false hk hc h2 l2 (r1.trans r2) μ1 e1 e2
  · exact place_case hk hc h2 l2 (r1.trans r2) μ1 e1 e2
  · refine ⟨⟨ps, .first⟩, μ2, ⟨hc, True.intro⟩, r1.trans r2, ?_⟩
    simp [F__law_statement, e1, e2, eq_word "first" "first" true sh_first sh_first (by kernel_rfl), f _ _ l2]
    rfl
end Pure

set_option linter.all false
set_option Elab.async false
set_option maxRecDepth 100000
set_option maxHeartbeats 1000000
/-! The plain law: the law's own checks, of any data. -/
namespace Pure
open PySem Mi Mir
theorem lwhole_spec (d : D) (lo hi : Int) (μ : Sto) : g__law_is_whole [.d d, .d (.int lo), .d (.int hi)] μ = .ok (.d (.bool (wholeD d lo hi))) μ := by
  rw [show g__law_is_whole = fnOf 3 3 F__law_is_whole from rfl, fnOf3]
  have e : ∀ b : Bool, fin μ.length (.rt (.d (.bool b)) μ) = .ok (.d (.bool b)) μ := fun b => x_fin _ _ _ rfl
  cases d <;> simp [F__law_is_whole, isTy, wholeD, e]
  rename_i v
  by_cases h1 : lo ≤ v <;> simp [h1, e]
theorem Sh.mem {n : Nat} {l : List D} (h : Sh (n + 1) (.tuple l)) {x : D} (hx : x ∈ l) : Sh n x := by
  obtain ⟨h1, h2⟩ := h
  rw [PyData.canLay0] at h1
  rw [PyData.depth] at h2
  exact ⟨canAll_mem h1 hx, by have := depth_mem hx; omega⟩
theorem eqv_nil (l : List D) : PyData.eqv (.list l) (.list []) = l.isEmpty := by cases l <;> rfl
theorem p30 : dPow (.int 10) (.int 30) = some (.int far) := rfl
theorem lends_spec {l h : D} (hl : Sh 62 l) (hh : Sh 62 h) (μ : Sto) : g__law_are_ends [.d l, .d h] μ = .ok (.d (.bool (endsD l h))) μ := by
  rw [show g__law_are_ends = fnOf 2 4 F__law_are_ends from rfl, fnOf2]
  have e : ∀ b : Bool, fin μ.length (.rt (.d (.bool b)) μ) = .ok (.d (.bool b)) μ := fun b => x_fin _ _ _ rfl
  have lc : ∀ ρ : Mi.Env, ρ.length = 4 → ρ[2]? = some (some (.d (.int far))) → lcL (tName 3) (eAnd (eNotN (eVar 3)) (eNot (eCall g__law_is_whole (aCons (eVar 3) (aCons (eUn dNeg (eVar 2)) (aCons (eVar 2) aNil)))))) (eVar 3) ρ [l, h] [] μ = .ok (.d (.list ([l, h].filter fun d => !endD d))) μ := fun ρ hρ h2 => by
    rw [lc_filter (fun d => !endD d) id [l, h] [] fun d hd => ⟨ρ.set 3 (some (.d d)), rfl, ?_, fun _ => ?_⟩]
    · simp
    · match ρ, hρ, h2 with
      | [r0, r1, r2, r3], _, h2 =>
        simp at h2
        subst h2
        cases hn : isNonD d <;> simp [isNonW_d, hn, endD, lwhole_spec]
    · simp [hρ]
  have sh : ∀ p : D → Bool, SeqAt.shaped (.list ([l, h].filter p)) = true := fun p => (Sh.lst (n := 62) fun x hx => by
    rcases List.mem_cons.mp (List.mem_filter.mp hx).1 with rfl | hx
    · exact hl
    · rw [List.mem_singleton.mp hx]; exact hh).shaped (by decide)
  have ne := dNeD (sh fun d => !endD d) (show SeqAt.shaped (.list []) = true from rfl)
  rw [eqv_nil] at ne
  cases h1 : endD l with
  | false =>
    simp [h1] at ne
    simp [F__law_are_ends, p30, items, lc, wipeE, h1, ne, endsD, e]
  | true =>
    cases h2 : endD h with
    | false =>
      simp [h1, h2] at ne
      simp [F__law_are_ends, p30, items, lc, wipeE, h1, h2, ne, endsD, e]
    | true =>
      simp [h1, h2] at ne
      cases h3 : isNonD l with
      | true => simp [F__law_are_ends, p30, items, lc, wipeE, h1, h2, ne, isNonW_d, h3, endsD, e]
      | false =>
        cases h4 : isNonD h with
        | true => simp [F__law_are_ends, p30, items, lc, wipeE, h1, h2, ne, isNonW_d, h3, h4, endsD, e]
        | false =>
          obtain ⟨i, rfl, _⟩ := end_int h1 h3
          obtain ⟨j, rfl, _⟩ := end_int h2 h4
          simp [F__law_are_ends, p30, items, lc, wipeE, h1, h2, ne, endsD, leD, e, isNonD]
def lbad1 : SF := sIf (eOr (eNot (eIsi .tuple (eVar 2))) (eOr (eOp dNe (eBlt bLen (aCons (eVar 2) aNil)) (eInt 4)) (eNot (eCall g__law_are_ends (aCons (eOp dIx (eVar 2) (eInt 0)) (aCons (eOp dIx (eVar 2) (eInt 1)) aNil)))))) (sRet (eBl false)) sNil
def lbad2 : SF := sIf (eOr (eNot (eIsi .str (eOp dIx (eVar 2) (eInt 2)))) (eNot (eCall g__law_is_whole (aCons (eOp dIx (eVar 2) (eInt 3)) (aCons (eUn dNeg (eOp dPow (eInt 10) (eInt 30))) (aCons (eOp dPow (eInt 10) (eInt 30)) aNil)))))) (sRet (eBl false)) sNil
def lbad3 : SF := sIf (eAnd (eOp dNe (eOp dIx (eVar 2) (eInt 2)) (eStr "set")) (eOr (eOp dNe (eOp dIx (eVar 2) (eInt 2)) (eStr "add")) (eOp dEq (eOp dIx (eVar 2) (eInt 3)) (eInt 0)))) (sRet (eBl false)) sNil
def lbad4 : SF := sIf (eAnd (eOp dGt (eVar 1) (eInt 0)) (eOr (eIsN (eOp dIx (eOp dIx (eVar 0) (eOp dSub (eVar 1) (eInt 1))) (eInt 1))) (eOr (eIsN (eOp dIx (eVar 2) (eInt 0))) (eOp dGe (eOp dIx (eOp dIx (eVar 0) (eOp dSub (eVar 1) (eInt 1))) (eInt 1)) (eOp dIx (eVar 2) (eInt 0)))))) (sRet (eBl false)) sNil
def lbody : SF := sSeq lbad1 (sSeq lbad2 (sSeq lbad3 lbad4))
theorem lpiece {d : D} (hs : Sh 61 d) (x0 x1 : Option W) (μ : Sto) : lbody [x0, x1, some (.d d)] μ = if pieceD d = true then lbad4 [x0, x1, some (.d d)] μ else .rt (.d (.bool false)) μ := by
  unfold lbody
  cases d with
  | tuple l =>
    match l, hs with
    | [], _ => simp [lbad1, isTy, bLen, dNeI, pieceD]
    | [_], _ => simp [lbad1, isTy, bLen, dNeI, pieceD]
    | [_, _], _ => simp [lbad1, isTy, bLen, dNeI, pieceD]
    | [_, _, _], _ => simp [lbad1, isTy, bLen, dNeI, pieceD]
    | a :: b :: c :: f :: g :: r, _ =>
      have hl : ((r.length : Int) + 1 + 1 + 1 + 1 + 1 == 4) = false := by
        rw [beq_eq_false_iff_ne]; omega
      simp [lbad1, isTy, bLen, dNeI, pieceD, hl]
    | [a, b, c, f], hs =>
      have i0 : dIx (.tuple [a, b, c, f]) (.int 0) = some a := rfl
      have i1 : dIx (.tuple [a, b, c, f]) (.int 1) = some b := rfl
      have i2 : dIx (.tuple [a, b, c, f]) (.int 2) = some c := rfl
      have i3 : dIx (.tuple [a, b, c, f]) (.int 3) = some f := rfl
      have le := lends_spec ((hs.mem (x := a) (by simp)).mono (by decide)) ((hs.mem (x := b) (by simp)).mono (by decide)) μ
      have w := lwhole_spec f (-far) far μ
      cases h1 : endsD a b with
      | false => cases c <;> simp [lbad1, isTy, bLen, dNeI, pieceD, i0, i1, le, h1]
      | true =>
        cases c with
        | str x =>
          have hx := (hs.mem (x := .str x) (by simp)).shaped (by decide)
          cases h2 : wholeD f (-far) far with
          | false => simp [lbad1, lbad2, isTy, bLen, dNeI, pieceD, i0, i1, i2, i3, le, h1, p30, w, h2]
          | true =>
            obtain ⟨v, rfl, _⟩ := whole_int h2
            cases h3 : (x == ("set" : Str)) <;> cases h4 : (x == ("add" : Str)) <;> cases h5 : (v == 0) <;> simp [lbad1, lbad2, lbad3, isTy, bLen, dNeI, dEqI, pieceD, i0, i1, i2, i3, le, h1, p30, w, h2, dNeS hx sh_set, dNeS hx sh_add, h3, h4, h5, nzD]
        | _ => simp [lbad1, lbad2, isTy, bLen, dNeI, pieceD, i0, i1, i2, le, h1]
  | _ => simp [lbad1, isTy, pieceD]
def chkL : Option D → List D → Bool
  | _, [] => true
  | q, p :: r => (pieceD p && (match q with | some q => apD q p | none => true)) && chkL (some p) r
theorem chkL_cons (q : Option D) (p : D) (r : List D) : chkL q (p :: r) = ((pieceD p && (match q with | some q => apD q p | none => true)) && chkL (some p) r) := by cases q <;> rfl
theorem chk_some : ∀ (q : D) (l : List D), chkL (some q) l = (l.all pieceD && apAll (q :: l))
  | q, [] => rfl
  | q, p :: r => by
    rw [chkL, chk_some p r, List.all_cons, apAll]
    cases pieceD p <;> cases apD q p <;> cases r.all pieceD <;> simp
theorem chk_none (l : List D) : chkL none l = (l.all pieceD && apAll l) := by
  cases l with
  | nil => rfl
  | cons p r =>
    rw [chkL, chk_some, List.all_cons]
    cases pieceD p <;> cases r.all pieceD <;> simp
theorem lap {pre r : List D} {p : D} (hp : pieceD p = true) (hq : ∀ q, pre.getLast? = some q → pieceD q = true) (μ : Sto) :
    lbad4 [some (.d (.tuple (pre ++ p :: r))), some (.d (.int (pre.length : Nat))), some (.d p)] μ =
      if (match pre.getLast? with | some q => apD q p | none => true) = true then .nx [some (.d (.tuple (pre ++ p :: r))), some (.d (.int (pre.length : Nat))), some (.d p)] μ else .rt (.d (.bool false)) μ := by
  unfold lbad4
  rcases List.eq_nil_or_concat pre with rfl | ⟨s, q, rfl⟩
  · simp
  · have hq := hq q (by simp)
    obtain ⟨a, b, w, c, rfl, he, _⟩ := piece_form hp
    obtain ⟨a', b', w', c', rfl, he', _⟩ := piece_form hq
    have hpos : (0 : Int) < (s.length : Int) + 1 := by omega
    have j1 : dIx (.tuple (s ++ [.tuple [a', b', .str w', c']] ++ .tuple [a, b, .str w, c] :: r)) (.int (s.length : Int)) = some (.tuple [a', b', .str w', c']) := by
      rw [ixN _ s.length (by simp)]
      simp
    have i1 : dIx (.tuple [a', b', .str w', c']) (.int 1) = some b' := rfl
    have i0 : dIx (.tuple [a, b, .str w, c]) (.int 0) = some a := rfl
    simp only [List.append_assoc, List.singleton_append] at j1
    cases h1 : isNonD b' with
    | true => simp [hpos, j1, i1, isNonW_d, h1, apD]
    | false =>
      cases h2 : isNonD a with
      | true => simp [hpos, j1, i1, i0, isNonW_d, h1, h2, apD]
      | false =>
        obtain ⟨i, rfl, _⟩ := end_int (ends_parts he').2 h1
        obtain ⟨j, rfl, _⟩ := end_int (ends_parts he).1 h2
        by_cases hij : i < j
        · have : ¬ j ≤ i := by omega
          simp [hpos, j1, i1, i0, apD, ltD, isNonD, hij, this]
        · have : j ≤ i := by omega
          simp [hpos, j1, i1, i0, apD, ltD, isNonD, hij, this]
theorem lloop (L : List D) (hL : ∀ x ∈ L, Sh 61 x) (μ : Sto) : ∀ (r pre : List D) (x1 x2 : Option W), L = pre ++ r → (∀ x ∈ pre, pieceD x = true) → ∃ x1' x2',
    forL (Mi.tTup [(tName 1), (tName 2)]) lbody ((r.zipIdx pre.length).map fun p => .tuple [.int (p.2 : Nat), p.1]) [some (.d (.tuple L)), x1, x2] μ = if chkL pre.getLast? r = true then .nx [some (.d (.tuple L)), x1', x2'] μ else .rt (.d (.bool false)) μ
  | [], pre, x1, x2, _, _ => ⟨x1, x2, by simp [forL, chkL]⟩
  | p :: r, pre, x1, x2, e, h => by
    have hp := hL p (by rw [e]; simp)
    have lp := lpiece hp (some (.d (.tuple L))) (some (.d (.int (pre.length : Nat)))) μ
    have st : ∀ R : RS, forL (Mi.tTup [(tName 1), (tName 2)]) lbody (((p :: r).zipIdx pre.length).map fun p => .tuple [.int (p.2 : Nat), p.1]) [some (.d (.tuple L)), x1, x2] μ =
      (match lbody [some (.d (.tuple L)), some (.d (.int (pre.length : Nat))), some (.d p)] μ with
        | .nx ρ1 μ1 => forL (Mi.tTup [(tName 1), (tName 2)]) lbody ((r.zipIdx (pre.length + 1)).map fun p => .tuple [.int (p.2 : Nat), p.1]) ρ1 μ1
        | .ct ρ1 μ1 => forL (Mi.tTup [(tName 1), (tName 2)]) lbody ((r.zipIdx (pre.length + 1)).map fun p => .tuple [.int (p.2 : Nat), p.1]) ρ1 μ1
        | .bk ρ1 μ1 => .nx ρ1 μ1
        | R => R) := fun R => by
      rw [List.zipIdx_cons, List.map_cons, forL]
      have t0 : tTup [tName 1, tName 2] (.tuple [.int (pre.length : Nat), p]) [some (.d (.tuple L)), x1, x2] = some [some (.d (.tuple L)), some (.d (.int (pre.length : Nat))), some (.d p)] := rfl
      dsimp only
      rw [t0]
      dsimp only
      cases lbody [some (.d (.tuple L)), some (.d (.int (pre.length : Nat))), some (.d p)] μ <;> rfl
    rw [st .no]
    cases h1 : pieceD p with
    | false =>
      rw [lp, h1]
      exact ⟨none, none, by simp [chkL, h1]⟩
    | true =>
      rw [lp, h1, if_pos rfl]
      have la := lap (r := r) h1 (fun q hq => h q (List.mem_of_getLast? hq)) μ
      rw [← e] at la
      rw [la]
      by_cases h2 : (match pre.getLast? with | some q => apD q p | none => true) = true
      · rw [if_pos h2]
        obtain ⟨x1', x2', ih⟩ := lloop L hL μ r (pre ++ [p]) (some (.d (.int (pre.length : Nat)))) (some (.d p)) (by rw [e]; simp) (fun x hx => by
          rcases List.mem_append.mp hx with hx | hx
          · exact h x hx
          · rw [List.mem_singleton.mp hx]; exact h1)
        rw [List.length_append, List.length_singleton] at ih
        refine ⟨x1', x2', ?_⟩
        dsimp only
        rw [ih, chkL_cons, h1, h2]
        simp
      · rw [if_neg h2]
        refine ⟨none, none, ?_⟩
        rw [chkL_cons, h1]
        simp only [Bool.not_eq_true] at h2
        rw [h2]
        simp
theorem lchange_spec {d : D} (hs : Sh 62 d) (μ : Sto) : g__law_is_change [.d d] μ = .ok (.d (.bool (fitsCh d))) μ := by
  rw [show g__law_is_change = fnOf 1 3 F__law_is_change from rfl, fnOf1]
  have e : ∀ b : Bool, fin μ.length (.rt (.d (.bool b)) μ) = .ok (.d (.bool b)) μ := fun b => x_fin _ _ _ rfl
  cases d with
  | tuple l =>
    by_cases h1 : 1 ≤ l.length
    · by_cases h4 : l.length ≤ 4
      · have b1 : ¬ (l.length : Int) < 1 := by omega
        have b4 : ¬ (4 : Int) < l.length := by omega
        have hlim : l.length ≤ LIM := by unfold LIM; omega
        obtain ⟨x1, x2, lo⟩ := lloop l (fun x hx => hs.mem hx) μ l [] none none rfl (fun x hx => by cases hx)
        have lo : forL (Mi.tTup [(tName 1), (tName 2)]) lbody (enumD l) [some (.d (.tuple l)), none, none] μ = if chkL none l = true then .nx [some (.d (.tuple l)), x1, x2] μ else .rt (.d (.bool false)) μ := lo
        rw [chk_none] at lo
        have z : fitsCh (.tuple l) = (l.all pieceD && apAll l) := by simp [fitsCh, h1, h4]
        rw [z]
        rw [show F__law_is_change = (sSeq (sIf (eOr (eNot (eIsi .tuple (eVar 0))) (eOr (eOp dLt (eBlt bLen (aCons (eVar 0) aNil)) (eInt 1)) (eOp dGt (eBlt bLen (aCons (eVar 0) aNil)) (eInt 4)))) (sRet (eBl false)) sNil)
          (sSeq (sFor (Mi.tTup [(tName 1), (tName 2)]) (iEnumD (eVar 0)) lbody) (sRet (eBl true)))) from rfl]
        cases hc : (l.all pieceD && apAll l) with
        | true =>
          rw [hc] at lo
          simp at lo
          simp [isTy, bLen, b1, b4, hlim, lo, e]
        | false =>
          rw [hc] at lo
          simp at lo
          simp [isTy, bLen, b1, b4, hlim, lo, e]
      · have b1 : ¬ (l.length : Int) < 1 := by omega
        have b4 : (4 : Int) < l.length := by omega
        simp [F__law_is_change, isTy, bLen, b1, b4, e, fitsCh, h4]
    · have h0 : l = [] := List.length_eq_zero_iff.mp (by omega)
      subst h0
      simp [F__law_is_change, isTy, bLen, e, fitsCh]
  | _ => simp [F__law_is_change, isTy, fitsCh, e]
theorem bools_map (f : D → Bool) : ∀ l : List D, boolsL (l.map fun d => PyData.bool (f d)) = some (l.map f)
  | [] => rfl
  | d :: r => by rw [List.map_cons, boolsL, bools_map f r]; rfl
theorem oneway_cnt (l : List D) : decide (((cntB ((l.filter isAdd).map upD) : Nat) : Int) < 2) = onewayL l := by
  unfold cntB onewayL
  have h1 : (true ∈ (l.filter isAdd).map upD) ↔ (l.filter isAdd).any upD = true := by
    simp [List.any_eq_true, and_assoc]
  have h2 : (false ∈ (l.filter isAdd).map upD) ↔ (l.filter isAdd).any (fun d => !upD d) = true := by
    simp [List.any_eq_true, and_assoc]
  by_cases a : (l.filter isAdd).any upD = true <;> by_cases b : (l.filter isAdd).any (fun d => !upD d) = true
  · rw [if_pos (h1.mpr a), if_pos (h2.mpr b), a, b]; rfl
  · rw [if_pos (h1.mpr a), if_neg (fun z => b (h2.mp z)), a]; simp only [Bool.not_eq_true] at b; rw [b]; rfl
  · rw [if_neg (fun z => a (h1.mp z)), if_pos (h2.mpr b), b]; simp only [Bool.not_eq_true] at a; rw [a]; rfl
  · rw [if_neg (fun z => a (h1.mp z)), if_neg (fun z => b (h2.mp z))]; simp only [Bool.not_eq_true] at a; rw [a]; rfl
theorem notin13 (n : Nat) : dNotIn (.int n) (.tuple [.int 1, .int 3]) = some (.bool (!(decide (n = 1) || decide (n = 3)))) := by
  have q : dIn (.int n) (.tuple [.int 1, .int 3]) = some (.bool (PyData.eqv (.int 1) (.int n) || (PyData.eqv (.int 3) (.int n) || false))) := rfl
  have e1 : PyData.eqv (.int 1) (.int n) = decide (n = 1) := by
    show ((1 : Int) == n) = _
    by_cases h : n = 1
    · subst h; rfl
    · rw [decide_eq_false h, beq_eq_false_iff_ne]; omega
  have e3 : PyData.eqv (.int 3) (.int n) = decide (n = 3) := by
    show ((3 : Int) == n) = _
    by_cases h : n = 3
    · subst h; rfl
    · rw [decide_eq_false h, beq_eq_false_iff_ne]; omega
  rw [dNotIn, q, e1, e3, Bool.or_false]
theorem in_ud (w : Str) : dIn (.str w) (.tuple [.str "up", .str "down"]) = some (.bool (("up" : Str) == w || ("down" : Str) == w)) := by
  simp [dIn, flatD, eqvS]
theorem beq_sym (a b : Str) : (a == b) = (b == a) := by
  by_cases h : a = b
  · rw [h]
  · rw [beq_eq_false_iff_ne.mpr h, beq_eq_false_iff_ne.mpr (Ne.symm h)]
theorem fits_tt (l : List D) (w : D) : fitsSt (.tuple [.tuple l, w]) = (fitsCh (.tuple l) && (walkD w && (!isPlace w || onewayL l))) := rfl
theorem lstatement_spec {d : D} (hs : Sh 63 d) (μ : Sto) : g__law_is_statement [.d d] μ = .ok (.d (.bool (fitsSt d))) μ := by
  rw [show g__law_is_statement = fnOf 1 3 F__law_is_statement from rfl, fnOf1]
  have e : ∀ b : Bool, fin μ.length (.rt (.d (.bool b)) μ) = .ok (.d (.bool b)) μ := fun b => x_fin _ _ _ rfl
  cases d with
  | tuple l =>
    match l, hs with
    | [], _ => simp [F__law_is_statement, isTy, bLen, dNeI, fitsSt, e]
    | [_], _ => simp [F__law_is_statement, isTy, bLen, dNeI, fitsSt, e]
    | a :: b :: c :: r, _ =>
      have hl : ((r.length : Int) + 1 + 1 + 1 == 2) = false := by rw [beq_eq_false_iff_ne]; omega
      simp [F__law_is_statement, isTy, bLen, dNeI, fitsSt, e, hl]
    | [c, w], hs =>
      have i0 : dIx (.tuple [c, w]) (.int 0) = some c := rfl
      have i1 : dIx (.tuple [c, w]) (.int 1) = some w := rfl
      have hc := hs.mem (x := c) (by simp)
      have hw := hs.mem (x := w) (by simp)
      have f1 := lchange_spec hc μ
      cases h1 : fitsCh c with
      | false =>
        rw [h1] at f1
        have z : fitsSt (.tuple [c, w]) = false := by cases c <;> simp [fitsSt, h1]
        rw [z]
        simp [F__law_is_statement, isTy, bLen, dNeI, e, i0, f1]
      | true =>
        rw [h1] at f1
        obtain ⟨l, rfl, hl⟩ : ∃ l, c = .tuple l ∧ ∀ x ∈ l, pieceD x = true := by
          cases c <;> simp [fitsCh] at h1
          exact ⟨_, rfl, h1.2.1⟩
        have hll : l.length ≤ 4 := by simp [fitsCh] at h1; omega
        cases w with
        | tuple r =>
          by_cases h13 : r.length = 1 ∨ r.length = 3
          · have n13 := notin13 r.length
            have n13 : dNotIn (.int r.length) (.tuple [.int 1, .int 3]) = some (.bool false) := by
              rw [n13]
              rcases h13 with h | h <;> rw [h] <;> rfl
            obtain ⟨a, t, rfl⟩ : ∃ a t, r = a :: t := by
              cases r with
              | nil => simp at h13
              | cons a t => exact ⟨a, t, rfl⟩
            have j0 : dIx (.tuple (a :: t)) (.int 0) = some a := ix4_0 _ t
            have n13' : dNotIn (.int ((t.length : Int) + 1)) (.tuple [.int 1, .int 3]) = some (.bool false) := n13
            cases a with
            | str x =>
              have hx := (hw.mem (x := .str x) (by simp)).shaped (by decide)
              match t, h13, j0, hw with
              | [], _, j0, hw =>
                have m1 : dNotIn (.int 1) (.tuple [.int 1, .int 3]) = some (.bool false) := rfl
                by_cases hp : x = "place"
                · subst hp
                  have lc : ∀ ρ : Mi.Env, ρ.length = 3 → lcL (tName 2) (eOp dEq (eOp dIx (eVar 2) (eInt 2)) (eStr "add")) (eOp dGt (eOp dIx (eVar 2) (eInt 3)) (eInt 0)) ρ l [] μ = .ok (.d (.list ((l.filter isAdd).map fun d => .bool (upD d)))) μ := fun ρ hρ => by
                    rw [lc_filter isAdd (fun d => .bool (upD d)) l [] fun d hd => ⟨ρ.set 2 (some (.d d)), rfl, ?_, fun _ => ?_⟩]
                    · rfl
                    · have hsd := (hc.mem hd)
                      obtain ⟨a, b, w, c, rfl, _, _⟩ := piece_form (hl d hd)
                      have i2 : dIx (.tuple [a, b, .str w, c]) (.int 2) = some (.str w) := rfl
                      have hw := (hsd.mem (x := .str w) (by simp)).shaped (by decide)
                      simp [hρ, i2, dEqS hw sh_add, isAdd]
                    · obtain ⟨a, b, w, c, rfl, _, hc, _⟩ := piece_form (hl d hd)
                      obtain ⟨v, rfl, _⟩ := whole_int hc
                      have i3 : dIx (.tuple [a, b, .str w, .int v]) (.int 3) = some (.int v) := rfl
                      simp [hρ, i3, upD]
                  have q : dEq (.str "place") (.str "place") = some (.bool true) := by kernel_rfl
                  have z : fitsSt (.tuple [.tuple l, .tuple [.str "place"]]) = onewayL l := by
                    rw [fits_tt, h1]
                    rfl
                  have oc := oneway_cnt l
                  have hf : (l.filter isAdd).length ≤ 1000 := Nat.le_trans (List.length_filter_le _ _) (by omega)
                  rw [z, ← oc]
                  simp [F__law_is_statement, isTy, bLen, dNeI, dEqI, e, i0, i1, f1, m1, j0, q, items, lc, wipeE, bools_map, hf]
                · have q : dEq (.str x) (.str "place") = some (.bool false) := by rw [dEqS hx sh_place, beq_eq_false_iff_ne.mpr hp]
                  have q2 := dEqS hx sh_first
                  have z : fitsSt (.tuple [.tuple l, .tuple [.str x]]) = (x == "first") := by
                    rw [fits_tt, h1]
                    by_cases hf : x = "first"
                    · subst hf; rfl
                    · rw [beq_eq_false_iff_ne.mpr hf]
                      simp [walkD, hf, hp, endsL]
                  rw [z]
                  simp [F__law_is_statement, isTy, bLen, dNeI, dEqI, e, i0, i1, f1, m1, j0, q, q2]
              | [lo, hi], _, j0, hw =>
                have m1 : dNotIn (.int 3) (.tuple [.int 1, .int 3]) = some (.bool false) := rfl
                have j1 : dIx (.tuple [.str x, lo, hi]) (.int 1) = some lo := rfl
                have j2 : dIx (.tuple [.str x, lo, hi]) (.int 2) = some hi := rfl
                have le := lends_spec ((hw.mem (x := lo) (by simp)).mono (by decide)) ((hw.mem (x := hi) (by simp)).mono (by decide)) μ
                have z : fitsSt (.tuple [.tuple l, .tuple [.str x, lo, hi]]) = ((("up" : Str) == x || ("down" : Str) == x) && endsD lo hi) := by
                  rw [fits_tt, h1]
                  rw [beq_sym "up", beq_sym "down"]
                  by_cases w1 : x = "first"
                  · subst w1; rfl
                  · by_cases w2 : x = "place"
                    · subst w2; rfl
                    · have pl : isPlace (.tuple [.str x, lo, hi]) = false := beq_eq_false_iff_ne.mpr w2
                      rw [pl]
                      simp [walkD, w1, w2, endsL]
                      by_cases w3 : x = "up"
                      · simp [w3]
                      · by_cases w4 : x = "down"
                        · simp [w4]
                        · simp [w3, w4]
                rw [z]
                cases hb : (("up" : Str) == x || ("down" : Str) == x) with
                | true =>
                  have iu := in_ud x
                  rw [hb] at iu
                  simp [F__law_is_statement, isTy, bLen, dNeI, dEqI, e, i0, i1, f1, m1, j0, j1, j2, iu, le]
                | false =>
                  have iu := in_ud x
                  rw [hb] at iu
                  simp [F__law_is_statement, isTy, bLen, dNeI, dEqI, e, i0, i1, f1, m1, j0, j1, j2, iu]
              | [_], h13, _, _ => simp at h13
              | _ :: _ :: _ :: _, h13, _, _ => simp at h13
            | _ => simp [F__law_is_statement, isTy, bLen, dNeI, e, i0, i1, f1, n13', j0, fitsSt, walkD]
          · have n13 := notin13 r.length
            simp only [not_or] at h13
            rw [decide_eq_false h13.1, decide_eq_false h13.2] at n13
            have z : fitsSt (.tuple [.tuple l, .tuple r]) = false := by
              have : walkD (.tuple r) = false := by
                match r, h13 with
                | [], _ => rfl
                | [a], h => simp at h
                | [.str a, b], _ => simp [walkD, endsL]
                | .str a :: b :: c :: d :: t, _ => simp [walkD, endsL]
                | [a, b, c], h => simp at h
                | .none :: b :: t, _ => rfl
                | .bool _ :: b :: t, _ => rfl
                | .int _ :: b :: t, _ => rfl
                | .list _ :: b :: t, _ => rfl
                | .tuple _ :: b :: t, _ => rfl
                | .dict _ :: b :: t, _ => rfl
              rw [fits_tt, this]
              simp
            rw [z]
            simp [F__law_is_statement, isTy, bLen, dNeI, e, i0, i1, f1, n13]
        | _ => simp [F__law_is_statement, isTy, bLen, dNeI, e, i0, i1, f1, fitsSt, walkD]
  | _ => simp [F__law_is_statement, isTy, fitsSt, e]
end Pure

set_option linter.all false
set_option Elab.async false
set_option maxRecDepth 100000
set_option maxHeartbeats 1000000
/-! The plain law: what fits is a statement. -/
namespace Pure
open PySem Mi Mir
theorem end_conv {a : D} (h : endD a = true) : ∃ o, EndOk o ∧ a = oD o := by
  cases hn : isNonD a with
  | true =>
    have : a = .none := by cases a <;> simp [isNonD] at hn; rfl
    exact ⟨none, fun i e => by (cases e), this⟩
  | false =>
    obtain ⟨i, rfl, h1, h2⟩ := end_int h hn
    exact ⟨some i, fun j e => by cases e; exact ⟨h1, h2⟩, rfl⟩
theorem ends_conv {a b : D} (h : endsD a b = true) : ∃ o p, EndOk o ∧ EndOk p ∧ (∀ i j, o = some i → p = some j → i ≤ j) ∧ a = oD o ∧ b = oD p := by
  obtain ⟨o, h1, rfl⟩ := end_conv (ends_parts h).1
  obtain ⟨p, h2, rfl⟩ := end_conv (ends_parts h).2
  refine ⟨o, p, h1, h2, fun i j e1 e2 => ?_, rfl, rfl⟩
  subst e1 e2
  simp [endsD, isNonD, leD] at h
  exact h.2.2
theorem piece_conv {d : D} (h : pieceD d = true) : ∃ p, PcOk p ∧ d = p.d := by
  obtain ⟨a, b, w, c, rfl, h1, h2, h3⟩ := piece_form h
  obtain ⟨o, p, e1, e2, e3, rfl, rfl⟩ := ends_conv h1
  obtain ⟨v, rfl, h4, h5⟩ := whole_int h2
  rcases h3 with rfl | ⟨rfl, h3⟩
  · exact ⟨⟨o, p, true, v⟩, ⟨e1, e2, e3, h4, h5, fun z => by cases z⟩, rfl⟩
  · exact ⟨⟨o, p, false, v⟩, ⟨e1, e2, e3, h4, h5, fun _ => by simpa [nzD] using h3⟩, rfl⟩
theorem pieces_conv : ∀ {l : List D}, (∀ x ∈ l, pieceD x = true) → ∃ ps : List Pc, (∀ p ∈ ps, PcOk p) ∧ l = ps.map Pc.d
  | [], _ => ⟨[], (fun p hp => by cases hp), rfl⟩
  | d :: r, h => by
    obtain ⟨p, hp, rfl⟩ := piece_conv (h d List.mem_cons_self)
    obtain ⟨ps, hps, rfl⟩ := pieces_conv fun x hx => h x (List.mem_cons_of_mem _ hx)
    refine ⟨p :: ps, fun q hq => ?_, rfl⟩
    rcases List.mem_cons.mp hq with rfl | hq
    · exact hp
    · exact hps q hq
theorem ap_conv : ∀ {ps : List Pc}, apAll (ps.map Pc.d) = true → Apart ps
  | [], _ => True.intro
  | [_], _ => True.intro
  | p :: q :: r, h => by
    have h : (apD p.d q.d && apAll ((q :: r).map Pc.d)) = true := h
    rw [Bool.and_eq_true] at h
    refine ⟨?_, ap_conv h.2⟩
    have h1 := h.1
    unfold Pc.d apD at h1
    obtain ⟨lo, hi, s, b⟩ := p
    obtain ⟨lo', hi', s', b'⟩ := q
    cases hi with
    | none => simp [isNonD] at h1
    | some i =>
      cases lo' with
      | none => simp [isNonD] at h1
      | some j => exact ⟨i, j, rfl, rfl, by simpa [isNonD, ltD] using h1⟩
theorem ch_conv {l : List D} (h : fitsCh (.tuple l) = true) : ∃ ps, ChOk ps ∧ l = ps.map Pc.d := by
  simp only [fitsCh, Bool.and_eq_true, decide_eq_true_eq, List.all_eq_true] at h
  obtain ⟨⟨h1, h4⟩, h2, h3⟩ := h
  obtain ⟨ps, hp, rfl⟩ := pieces_conv h2
  rw [List.length_map] at h1 h4
  exact ⟨ps, ⟨h1, h4, hp, ap_conv h3⟩, rfl⟩
theorem oneway_conv {ps : List Pc} (h : onewayL (ps.map Pc.d) = true) : OneWay ps := by
  unfold onewayL at h
  have fl : (ps.map Pc.d).filter isAdd = (ps.filter fun p => !p.set).map Pc.d := by
    rw [List.filter_map]
    congr 1
    exact List.filter_congr fun p _ => isAdd_d p
  rw [fl] at h
  simp only [Bool.or_eq_true, Bool.not_eq_true', List.any_eq_false, List.mem_map] at h
  rcases h with h | h
  · refine .inr fun p hp hs => ?_
    have := h p.d ⟨p, List.mem_filter.mpr ⟨hp, by simp [hs]⟩, rfl⟩
    simp [Pc.d, upD] at this
    omega
  · refine .inl fun p hp hs => ?_
    have := h p.d ⟨p, List.mem_filter.mpr ⟨hp, by simp [hs]⟩, rfl⟩
    simp [Pc.d, upD] at this
    omega
theorem st_conv {d : D} (h : fitsSt d = true) : ∃ s, StOk s ∧ d = s.d := by
  unfold fitsSt at h
  split at h
  · rename_i l w
    simp only [Bool.and_eq_true, Bool.or_eq_true, Bool.not_eq_true'] at h
    obtain ⟨h1, h2, h3⟩ := h
    obtain ⟨ps, hc, rfl⟩ := ch_conv h1
    unfold walkD at h2
    split at h2
    · rename_i x r
      by_cases w1 : x = "first"
      · subst w1
        have h2 : r.isEmpty = true := h2
        rw [List.isEmpty_iff] at h2
        subst h2
        exact ⟨⟨ps, .first⟩, ⟨hc, True.intro⟩, rfl⟩
      · by_cases w2 : x = "place"
        · subst w2
          have h2 : r.isEmpty = true := h2
          rw [List.isEmpty_iff] at h2
          subst h2
          rcases h3 with h3 | h3
          · cases h3
          · exact ⟨⟨ps, .place⟩, ⟨hc, oneway_conv h3⟩, rfl⟩
        · have hud : x = "up" ∨ x = "down" := by
            by_cases w3 : x = "up"
            · exact .inl w3
            · by_cases w4 : x = "down"
              · exact .inr w4
              · simp [w1, w2, w3, w4] at h2
          have h2 : endsL r = true := by rcases hud with rfl | rfl <;> exact h2
          unfold endsL at h2
          split at h2
          · rename_i lo hi
            obtain ⟨o, p, e1, e2, e3, rfl, rfl⟩ := ends_conv h2
            rcases hud with rfl | rfl
            · exact ⟨⟨ps, .way true o p⟩, ⟨hc, e1, e2, e3⟩, rfl⟩
            · exact ⟨⟨ps, .way false o p⟩, ⟨hc, e1, e2, e3⟩, rfl⟩
          · cases h2
    · cases h2
  · cases h
end Pure

set_option linter.all false
set_option Elab.async false
set_option maxRecDepth 100000
set_option maxHeartbeats 1000000
/-! The plain law: pieces that hold a worth, and what they make of it. -/
namespace Pure
open PySem Mi Mir
def leO : Option Int → Int → Bool
  | none, _ => true
  | some a, w => decide (a ≤ w)
def geO : Option Int → Int → Bool
  | none, _ => true
  | some a, w => decide (w ≤ a)
def hasB (lo hi : Option Int) (w : Int) : Bool := leO lo w && geO hi w
theorem ixc0 (a : D) (r : List D) : dIx (.tuple (a :: r)) (.int 0) = some a := ix4_0 a r
theorem ixc1 (a b : D) (r : List D) : dIx (.tuple (a :: b :: r)) (.int 1) = some b := by
  have : (1 : Int) < (r.length : Int) + 1 + 1 := by omega
  simp [dIx, ixI, this]
theorem ixc2 (a b c : D) (r : List D) : dIx (.tuple (a :: b :: c :: r)) (.int 2) = some c := by
  have : (2 : Int) < (r.length : Int) + 1 + 1 + 1 := by omega
  simp [dIx, ixI, this]
theorem has_spec (lo hi : Option Int) (r : List D) (w : Int) (μ : Sto) : g_has [.d (.tuple (oD lo :: oD hi :: r)), .d (.int w)] μ = .ok (.d (.bool (hasB lo hi w))) μ := by
  have f : ∀ b : D, fin μ.length (.rt (.d b) μ) = .ok (.d b) μ := fun b => x_fin _ _ _ rfl
  rw [show g_has = fnOf 2 2 F_has from rfl, fnOf2]
  cases lo with
  | none => cases hi with
    | none => simp [F_has, ixc0, ixc1, hasB, leO, geO, f]
    | some h => simp [F_has, ixc0, ixc1, hasB, leO, geO, f]
  | some l =>
    by_cases h1 : l ≤ w
    · cases hi with
      | none => simp [F_has, ixc0, ixc1, hasB, leO, geO, f, h1]
      | some h => simp [F_has, ixc0, ixc1, hasB, leO, geO, f, h1]
    · cases hi <;> simp [F_has, ixc0, ixc1, hasB, leO, geO, f, h1]
def pieceOf (ps : List Pc) (w : Int) : Option Pc := ps.find? fun p => hasB p.lo p.hi w
def pD : Option Pc → D
  | none => .none
  | some p => p.d
theorem has_pc (p : Pc) (w : Int) (μ : Sto) : g_has [.d p.d, .d (.int w)] μ = .ok (.d (.bool (hasB p.lo p.hi w))) μ := has_spec p.lo p.hi _ w μ
theorem piece_loop (x0 : Option W) (w : Int) (μ : Sto) : ∀ (ps : List Pc) (x2 : Option W), ∃ x2', forL (tName 2) (sIf (eCall g_has (aCons (eVar 2) (aCons (eVar 1) aNil))) (sRet (eVar 2)) sNil) (ps.map Pc.d) [x0, some (.d (.int w)), x2] μ =
    match pieceOf ps w with | some p => .rt (.d p.d) μ | none => .nx [x0, some (.d (.int w)), x2'] μ
  | [], x2 => ⟨x2, rfl⟩
  | p :: ps, x2 => by
    obtain ⟨x2', ih⟩ := piece_loop x0 w μ ps (some (.d p.d))
    have hp := has_pc p w μ
    cases h : hasB p.lo p.hi w with
    | true => exact ⟨none, by rw [h] at hp; simp [forL, hp, pieceOf, h]⟩
    | false =>
      refine ⟨x2', ?_⟩
      rw [h] at hp
      rw [show pieceOf (p :: ps) w = pieceOf ps w by simp [pieceOf, h], ← ih]
      simp [forL, hp]
theorem piece_of_spec (ps : List Pc) (w : Int) (μ : Sto) : g_piece_of [.d (.tuple (ps.map Pc.d)), .d (.int w)] μ = .ok (.d (pD (pieceOf ps w))) μ := by
  have f : ∀ b : D, fin μ.length (.rt (.d b) μ) = .ok (.d b) μ := fun b => x_fin _ _ _ rfl
  obtain ⟨x2, e⟩ := piece_loop (some (.d (.tuple (ps.map Pc.d)))) w μ ps none
  rw [show g_piece_of = fnOf 2 3 F_piece_of from rfl, fnOf2]
  unfold F_piece_of
  rw [x_sSeq, x_sFor, x_iSeq]
  simp only [x_eVar, List.getElem?_cons_zero, R.bind_ok, items, ofO_some, R.bindS_ok, List.replicate, Nat.reduceSub]
  rw [e]
  cases pieceOf ps w with
  | none => simp [pD, f]
  | some p => simp [pD, f]
def made (o : Option Pc) (w : Int) : Int := match o with
  | none => w
  | some p => if p.set then p.by_ else w + p.by_
def changedI (ps : List Pc) (w : Int) : Int := made (pieceOf ps w) w
theorem made_spec (o : Option Pc) (w : Int) (μ : Sto) : g_made [.d (pD o), .d (.int w)] μ = .ok (.d (.int (made o w))) μ := by
  have f : ∀ b : D, fin μ.length (.rt (.d b) μ) = .ok (.d b) μ := fun b => x_fin _ _ _ rfl
  rw [show g_made = fnOf 2 2 F_made from rfl, fnOf2]
  cases o with
  | none => simp [F_made, pD, made, f]
  | some p =>
    have nn : isNonW (.d p.d) = false := rfl
    have i2 := ix2d p
    have i3 := ix3d p
    have q := eq_add p.set
    cases hs : p.set with
    | true => rw [hs] at i2 q; simp [F_made, pD, nn, i2, q, i3, made, hs, f]
    | false => rw [hs] at i2 q; simp [F_made, pD, nn, i2, q, i3, made, hs, f]
theorem changed_by_spec (ps : List Pc) (w : Int) (μ : Sto) : g_changed_by [.d (.tuple (ps.map Pc.d)), .d (.int w)] μ = .ok (.d (.int (changedI ps w))) μ := by
  have f : ∀ b : D, fin μ.length (.rt (.d b) μ) = .ok (.d b) μ := fun b => x_fin _ _ _ rfl
  have h1 := piece_of_spec ps w μ
  have h2 := made_spec (pieceOf ps w) w μ
  rw [show g_changed_by = fnOf 2 2 F_changed_by from rfl, fnOf2]
  simp [F_changed_by, h1, h2, f, changedI]
/-! the law's own -/
theorem lhas_spec (lo hi : Option Int) (w : Int) (μ : Sto) : g__law_has [.d (oD lo), .d (oD hi), .d (.int w)] μ = .ok (.d (.bool (hasB lo hi w))) μ := by
  have f : ∀ b : D, fin μ.length (.rt (.d b) μ) = .ok (.d b) μ := fun b => x_fin _ _ _ rfl
  rw [show g__law_has = fnOf 3 3 F__law_has from rfl, fnOf3]
  cases lo with
  | none => cases hi with
    | none => simp [F__law_has, hasB, leO, geO, f]
    | some h => simp [F__law_has, hasB, leO, geO, f]
  | some l =>
    by_cases h1 : l ≤ w
    · cases hi with
      | none => simp [F__law_has, hasB, leO, geO, f, h1]
      | some h => simp [F__law_has, hasB, leO, geO, f, h1]
    · cases hi <;> simp [F__law_has, hasB, leO, geO, f, h1]
theorem lpiece_loop (x0 : Option W) (w : Int) (μ : Sto) : ∀ (ps : List Pc) (x2 : Option W), ∃ x2', forL (tName 2) (sIf (eCall g__law_has (aCons (eOp dIx (eVar 2) (eInt 0)) (aCons (eOp dIx (eVar 2) (eInt 1)) (aCons (eVar 1) aNil)))) (sRet (eVar 2)) sNil) (ps.map Pc.d) [x0, some (.d (.int w)), x2] μ =
    match pieceOf ps w with | some p => .rt (.d p.d) μ | none => .nx [x0, some (.d (.int w)), x2'] μ
  | [], x2 => ⟨x2, rfl⟩
  | p :: ps, x2 => by
    obtain ⟨x2', ih⟩ := lpiece_loop x0 w μ ps (some (.d p.d))
    have hp := lhas_spec p.lo p.hi w μ
    have i0 : dIx p.d (.int 0) = some (oD p.lo) := rfl
    have i1 : dIx p.d (.int 1) = some (oD p.hi) := rfl
    cases h : hasB p.lo p.hi w with
    | true => exact ⟨none, by rw [h] at hp; simp [forL, i0, i1, hp, pieceOf, h]⟩
    | false =>
      refine ⟨x2', ?_⟩
      rw [h] at hp
      rw [show pieceOf (p :: ps) w = pieceOf ps w by simp [pieceOf, h], ← ih]
      simp [forL, i0, i1, hp]
theorem lpiece_of_spec (ps : List Pc) (w : Int) (μ : Sto) : g__law_piece [.d (.tuple (ps.map Pc.d)), .d (.int w)] μ = .ok (.d (pD (pieceOf ps w))) μ := by
  have f : ∀ b : D, fin μ.length (.rt (.d b) μ) = .ok (.d b) μ := fun b => x_fin _ _ _ rfl
  obtain ⟨x2, e⟩ := lpiece_loop (some (.d (.tuple (ps.map Pc.d)))) w μ ps none
  rw [show g__law_piece = fnOf 2 3 F__law_piece from rfl, fnOf2]
  unfold F__law_piece
  rw [x_sSeq, x_sFor, x_iSeq]
  simp only [x_eVar, List.getElem?_cons_zero, R.bind_ok, items, ofO_some, R.bindS_ok, List.replicate, Nat.reduceSub]
  rw [e]
  cases pieceOf ps w with
  | none => simp [pD, f]
  | some p => simp [pD, f]
theorem lchanged_spec (ps : List Pc) (w : Int) (μ : Sto) : g__law_changed [.d (.tuple (ps.map Pc.d)), .d (.int w)] μ = .ok (.d (.int (changedI ps w))) μ := by
  have f : ∀ b : D, fin μ.length (.rt (.d b) μ) = .ok (.d b) μ := fun b => x_fin _ _ _ rfl
  have h1 := lpiece_of_spec ps w μ
  rw [show g__law_changed = fnOf 2 3 F__law_changed from rfl, fnOf2]
  cases ho : pieceOf ps w with
  | none =>
    rw [ho] at h1
    simp [F__law_changed, h1, pD, changedI, ho, made, f]
  | some p =>
    rw [ho] at h1
    have nn : isNonW (.d p.d) = false := rfl
    have i2 := ix2d p
    have i3 := ix3d p
    have q := eq_add p.set
    cases hs : p.set with
    | true => rw [hs] at i2 q; simp [F__law_changed, h1, pD, nn, i2, q, i3, changedI, ho, made, hs, f]
    | false => rw [hs] at i2 q; simp [F__law_changed, h1, pD, nn, i2, q, i3, changedI, ho, made, hs, f]
end Pure

set_option linter.all false
set_option Elab.async false
set_option maxRecDepth 100000
set_option maxHeartbeats 1000000
/-! The plain law: statements turned about. -/
namespace Pure
open PySem Mi Mir
def negO (o : Option Int) : Option Int := o.map fun i => -i
theorem turned_end_spec (o : Option Int) (μ : Sto) : g_turned_end [.d (oD o)] μ = .ok (.d (oD (negO o))) μ := by
  have f : ∀ b : D, fin μ.length (.rt (.d b) μ) = .ok (.d b) μ := fun b => x_fin _ _ _ rfl
  rw [show g_turned_end = fnOf 1 1 F_turned_end from rfl, fnOf1]
  cases o with
  | none => simp [F_turned_end, negO, f]
  | some i => simp [F_turned_end, negO, f]
def Pc.turn (p : Pc) : Pc := ⟨negO p.hi, negO p.lo, p.set, -p.by_⟩
def turnPs (ps : List Pc) : List Pc := ps.reverse.map Pc.turn
theorem turned_spec (ps : List Pc) (μ : Sto) : g_turned [.d (.tuple (ps.map Pc.d))] μ = .ok (.d (.tuple ((turnPs ps).map Pc.d))) μ := by
  have f : ∀ b : D, fin μ.length (.rt (.d b) μ) = .ok (.d b) μ := fun b => x_fin _ _ _ rfl
  have rv : dRev (.tuple (ps.map Pc.d)) = some (.tuple (ps.reverse.map Pc.d)) := by
    show some (PyData.tuple (ps.map Pc.d).reverse) = _
    rw [List.map_reverse]
  have lc : ∀ ρ : Mi.Env, ρ.length = 2 → lcL (tName 1) eYes (eTup (aCons (eCall g_turned_end (aCons (eOp dIx (eVar 1) (eInt 1)) aNil)) (aCons (eCall g_turned_end (aCons (eOp dIx (eVar 1) (eInt 0)) aNil)) (aCons (eOp dIx (eVar 1) (eInt 2)) (aCons (eUn dNeg (eOp dIx (eVar 1) (eInt 3))) aNil))))) ρ (ps.reverse.map Pc.d) [] μ = .ok (.d (.list ((turnPs ps).map Pc.d))) μ := fun ρ hρ => by
    rw [lc_mapT Pc.d (fun p => p.turn.d) ps.reverse [] fun p hp => ⟨ρ.set 1 (some (.d p.d)), rfl, rfl, ?_⟩]
    · rw [List.nil_append]
      unfold turnPs
      rw [List.map_map]
      rfl
    · have i0 : dIx p.d (.int 0) = some (oD p.lo) := rfl
      have i1 : dIx p.d (.int 1) = some (oD p.hi) := rfl
      simp [hρ, i0, i1, ix2d, ix3d, turned_end_spec]
      rfl
  rw [show g_turned = fnOf 1 2 F_turned from rfl, fnOf1]
  unfold F_turned
  rw [x_sRet, x_eBlt, x_aCons, x_eLc, x_iSeq, x_eUn]
  simp only [x_eVar, List.getElem?_cons_zero, R.bind_ok, view_d, Option.bind_some, rv, Option.map_some, ofO_some, items, List.replicate, Nat.reduceSub]
  rw [lc _ (by simp [wipeE])]
  simp [bTup, f]
def gdown (s : St) : Bool := match s.wk with
  | .place => s.ps.any fun p => !p.set && decide (p.by_ < 0)
  | .way u _ _ => !u
  | .first => false
theorem eqv_nilL (l : List D) : PyData.eqv (.list l) (.list []) = l.isEmpty := by cases l <;> rfl
theorem goes_down_spec {s : St} (μ : Sto) : g_goes_down [.d s.d] μ = .ok (.d (.bool (gdown s))) μ := by
  have f : ∀ b : D, fin μ.length (.rt (.d b) μ) = .ok (.d b) μ := fun b => x_fin _ _ _ rfl
  have tg : ∀ (x1 x2 x3 : Option W), tTup [tName 1, tName 2] s.d [some (.d s.d), x1, x2, x3] = some [some (.d s.d), some (.d (.tuple (s.ps.map Pc.d))), some (.d s.wk.d), x3] := fun _ _ _ => rfl
  rw [show g_goes_down = fnOf 1 4 F_goes_down from rfl, fnOf1]
  unfold F_goes_down
  rw [x_sSeq, x_sTgt]
  simp only [x_eVar, List.getElem?_cons_zero, R.bindS_ok, List.replicate, Nat.reduceSub, tg]
  cases hw : s.wk with
  | first =>
    have i0 : dIx (Wk.d .first) (.int 0) = some (.str "first") := rfl
    have q1 : dEq (.str "first") (.str "place") = some (.bool false) := by kernel_rfl
    have q2 : dEq (.str "first") (.str "down") = some (.bool false) := by kernel_rfl
    simp [i0, q1, q2, gdown, hw, f]
  | way u lo hi =>
    have i0 : dIx (Wk.d (.way u lo hi)) (.int 0) = some (.str (wayS u)) := rfl
    have q1 : dEq (.str (wayS u)) (.str "place") = some (.bool false) := by cases u <;> kernel_rfl
    have q2 : dEq (.str (wayS u)) (.str "down") = some (.bool (!u)) := by cases u <;> kernel_rfl
    simp [i0, q1, q2, gdown, hw, f]
  | place =>
    have i0 : dIx (Wk.d .place) (.int 0) = some (.str "place") := rfl
    have q1 : dEq (.str "place") (.str "place") = some (.bool true) := by kernel_rfl
    have lc : ∀ ρ : Mi.Env, ρ.length = 4 → lcL (tName 3) (eAnd (eOp dEq (eOp dIx (eVar 3) (eInt 2)) (eStr "add")) (eOp dLt (eOp dIx (eVar 3) (eInt 3)) (eInt 0))) (eVar 3) ρ (s.ps.map Pc.d) [] μ = .ok (.d (.list ((s.ps.filter fun p => !p.set && decide (p.by_ < 0)).map Pc.d))) μ := fun ρ hρ => by
      have z : ∀ (l : List Pc) (acc : List D), lcL (tName 3) (eAnd (eOp dEq (eOp dIx (eVar 3) (eInt 2)) (eStr "add")) (eOp dLt (eOp dIx (eVar 3) (eInt 3)) (eInt 0))) (eVar 3) ρ (l.map Pc.d) acc μ = .ok (.d (.list (acc ++ (l.filter fun p => !p.set && decide (p.by_ < 0)).map Pc.d))) μ := by
        intro l
        induction l with
        | nil => intro acc; simp [lcL]
        | cons p r ih =>
          intro acc
          have i2 := ix2d p
          have i3 := ix3d p
          have q := eq_add p.set
          cases hs : p.set with
          | true =>
            rw [hs] at i2 q
            simp [lcL, hρ, i2, q, ih, hs]
          | false =>
            rw [hs] at i2 q
            by_cases hb : p.by_ < 0
            · simp [lcL, hρ, i2, i3, q, ih, hs, hb]
            · simp [lcL, hρ, i2, i3, q, ih, hs, hb]
      exact z s.ps []
    have ne := dNeD (a := .list ((s.ps.filter fun p => !p.set && decide (p.by_ < 0)).map Pc.d)) (b := .list []) ((Sh.lst (n := 1) fun x hx => by
      obtain ⟨p, _, rfl⟩ := List.mem_map.mp hx
      exact sh_pc p).shaped (by decide)) rfl
    rw [eqv_nilL] at ne
    have an : (!(((s.ps.filter fun p => !p.set && decide (p.by_ < 0)).map Pc.d).isEmpty)) = s.ps.any fun p => !p.set && decide (p.by_ < 0) := by
      induction s.ps with
      | nil => rfl
      | cons p r ih =>
        rw [List.any_cons, List.filter_cons]
        cases (!p.set && decide (p.by_ < 0)) with
        | true => rfl
        | false => simpa using ih
    rw [an] at ne
    rw [x_sSeq, x_sIf]
    simp only [x_eOp, x_eVar, x_eInt, x_eStr, List.getElem?_cons_zero, List.getElem?_cons_succ, R.bind_ok, view_d, Option.bind_some, i0, Option.map_some, ofO_some, q1, RS.test_ok, if_true, x_sRet, x_eLc, x_iSeq, items]
    rw [lc _ (by simp [wipeE])]
    simp [ne, f, gdown, hw]
def rise (s : St) : St := if gdown s then (match s.wk with
  | .way _ lo hi => ⟨turnPs s.ps, .way true (negO hi) (negO lo)⟩
  | w => ⟨turnPs s.ps, w⟩) else s
theorem risen_spec {s : St} (μ : Sto) : g_risen [.d s.d] μ = .ok (.d (rise s).d) μ := by
  have f : ∀ b : D, fin μ.length (.rt (.d b) μ) = .ok (.d b) μ := fun b => x_fin _ _ _ rfl
  have tg : ∀ (x1 x2 : Option W), tTup [tName 1, tName 2] s.d [some (.d s.d), x1, x2] = some [some (.d s.d), some (.d (.tuple (s.ps.map Pc.d))), some (.d s.wk.d)] := fun _ _ => rfl
  have gd := goes_down_spec (s := s) μ
  have tn := turned_spec s.ps μ
  rw [show g_risen = fnOf 1 3 F_risen from rfl, fnOf1]
  unfold F_risen
  cases hg : gdown s with
  | false =>
    rw [hg] at gd
    simp [gd, f, rise, hg]
  | true =>
    rw [hg] at gd
    rw [x_sSeq, x_sIf]
    simp only [x_eNot, x_eCall, x_aCons, x_aNil, x_eVar, List.getElem?_cons_zero, R.bind_ok, gd, R.test_ok, RS.test_ok, Bool.not_true, Bool.false_eq_true, if_false, x_sNil, List.replicate, Nat.reduceSub]
    rw [x_sSeq, x_sTgt]
    simp only [x_eVar, List.getElem?_cons_zero, R.bindS_ok, tg]
    cases hw : s.wk with
    | first => simp [gdown, hw] at hg
    | place =>
      have i0 : dIx (Wk.d .place) (.int 0) = some (.str "place") := rfl
      have q1 : dEq (.str "place") (.str "place") = some (.bool true) := by kernel_rfl
      simp [i0, q1, tn, rise, hg, hw, f]
      rfl
    | way u lo hi =>
      have i0 : dIx (Wk.d (.way u lo hi)) (.int 0) = some (.str (wayS u)) := rfl
      have i1 : dIx (Wk.d (.way u lo hi)) (.int 1) = some (oD lo) := rfl
      have i2 : dIx (Wk.d (.way u lo hi)) (.int 2) = some (oD hi) := rfl
      have q1 : dEq (.str (wayS u)) (.str "place") = some (.bool false) := by cases u <;> kernel_rfl
      simp [i0, i1, i2, q1, tn, turned_end_spec, rise, hg, hw, f]
      rfl
def signI (s : St) : Int := if gdown s then -1 else 1
theorem sign_of_spec {s : St} (μ : Sto) : g_sign_of [.d s.d] μ = .ok (.d (.int (signI s))) μ := by
  have f : ∀ b : D, fin μ.length (.rt (.d b) μ) = .ok (.d b) μ := fun b => x_fin _ _ _ rfl
  have gd := goes_down_spec (s := s) μ
  rw [show g_sign_of = fnOf 1 1 F_sign_of from rfl, fnOf1]
  cases hg : gdown s with
  | false => rw [hg] at gd; simp [F_sign_of, gd, signI, hg, f]
  | true => rw [hg] at gd; simp [F_sign_of, gd, signI, hg, f]
def inWalk (k : Wk) (w : Int) : Bool := match k with
  | .way true lo hi => hasB lo hi w
  | _ => true
theorem in_walk_spec (k : Wk) (w : Int) (μ : Sto) : g_in_walk [.d k.d, .d (.int w)] μ = .ok (.d (.bool (inWalk k w))) μ := by
  have f : ∀ b : D, fin μ.length (.rt (.d b) μ) = .ok (.d b) μ := fun b => x_fin _ _ _ rfl
  rw [show g_in_walk = fnOf 2 2 F_in_walk from rfl, fnOf2]
  cases k with
  | first =>
    have i0 : dIx (Wk.d .first) (.int 0) = some (.str "first") := rfl
    have q1 : dNe (.str "first") (.str "up") = some (.bool true) := by kernel_rfl
    simp [F_in_walk, i0, q1, inWalk, f]
  | place =>
    have i0 : dIx (Wk.d .place) (.int 0) = some (.str "place") := rfl
    have q1 : dNe (.str "place") (.str "up") = some (.bool true) := by kernel_rfl
    simp [F_in_walk, i0, q1, inWalk, f]
  | way u lo hi =>
    have i0 : dIx (Wk.d (.way u lo hi)) (.int 0) = some (.str (wayS u)) := rfl
    have i1 : dIx (Wk.d (.way u lo hi)) (.int 1) = some (oD lo) := rfl
    have i2 : dIx (Wk.d (.way u lo hi)) (.int 2) = some (oD hi) := rfl
    cases u with
    | true =>
      have q1 : dNe (.str (wayS true)) (.str "up") = some (.bool false) := by kernel_rfl
      have h := has_spec lo hi [] w μ
      simp [F_in_walk, i0, i1, i2, q1, h, inWalk, f]
    | false =>
      have q1 : dNe (.str (wayS false)) (.str "up") = some (.bool true) := by kernel_rfl
      simp [F_in_walk, i0, q1, inWalk, f]
/-- what the law says of a row that is met -/
def metI (s : St) (w : Int) : Bool := match s.wk with
  | .way _ lo hi => hasB lo hi w
  | _ => true
theorem geO_neg (o : Option Int) (w : Int) : geO (negO o) (-w) = leO o w := by
  cases o with
  | none => rfl
  | some i =>
    show decide (-w ≤ -i) = decide (i ≤ w)
    by_cases h : i ≤ w
    · rw [decide_eq_true h, decide_eq_true (by omega)]
    · rw [decide_eq_false h, decide_eq_false (by omega)]
theorem leO_neg (o : Option Int) (w : Int) : leO (negO o) (-w) = geO o w := by
  cases o with
  | none => rfl
  | some i =>
    show decide (-i ≤ -w) = decide (w ≤ i)
    by_cases h : w ≤ i
    · rw [decide_eq_true h, decide_eq_true (by omega)]
    · rw [decide_eq_false h, decide_eq_false (by omega)]
theorem hasB_neg (lo hi : Option Int) (w : Int) : hasB (negO hi) (negO lo) (-w) = hasB lo hi w := by
  unfold hasB
  rw [leO_neg, geO_neg, Bool.and_comm]
theorem met_eq (s : St) (w : Int) : inWalk (rise s).wk (signI s * w) = metI s w := by
  obtain ⟨ps, k⟩ := s
  cases k with
  | first => rfl
  | place =>
    unfold rise metI
    split <;> rfl
  | way u lo hi =>
    cases u with
    | true =>
      have : signI ⟨ps, .way true lo hi⟩ * w = w := by
        show (1 : Int) * w = w
        omega
      rw [this]
      rfl
    | false =>
      have : signI ⟨ps, .way false lo hi⟩ * w = -w := by
        show (-1 : Int) * w = -w
        omega
      rw [this]
      show hasB (negO hi) (negO lo) (-w) = hasB lo hi w
      exact hasB_neg lo hi w
end Pure

set_option linter.all false
set_option Elab.async false
set_option maxRecDepth 100000
set_option maxHeartbeats 1000000
/-! The plain law: the public defs over changes and statements, of any data. -/
namespace Pure
open PySem Mi Mir
theorem ne_self {d : D} (h : SeqAt.shaped d = true) : dNe d d = some (.bool false) := by
  rw [dNeD h h, SeqAt.eqv_refl d (shaped_iff.mp h).1]
  rfl
theorem eq_self {d : D} (h : SeqAt.shaped d = true) : dEq d d = some (.bool true) := by
  rw [dEqD h h, SeqAt.eqv_refl d (shaped_iff.mp h).1]
theorem needst_ok {d : D} (hs : SeqAt.shaped d = true) (hf : fitsSt d = true) (μ : Sto) : g_need_statement [.d d] μ = .ok (.d .none) μ := by
  have ft := fits_statement_spec d hs μ
  rw [hf] at ft
  rw [show g_need_statement = fnOf 1 1 F_need_statement from rfl, fnOf1]
  simp [F_need_statement, ft, fin]
theorem needst_no {d : D} (hs : SeqAt.shaped d = true) (hf : fitsSt d = false) (μ : Sto) : g_need_statement [.d d] μ = .er ⟨"InvalidStatement", none⟩ μ := by
  have ft := fits_statement_spec d hs μ
  rw [hf] at ft
  rw [show g_need_statement = fnOf 1 1 F_need_statement from rfl, fnOf1]
  simp [F_need_statement, ft, fin]
theorem needch_ok {d : D} (hs : SeqAt.shaped d = true) (hf : fitsCh d = true) (μ : Sto) : g_need_change [.d d] μ = .ok (.d .none) μ := by
  have ft := fits_change_spec d hs μ
  rw [hf] at ft
  rw [show g_need_change = fnOf 1 1 F_need_change from rfl, fnOf1]
  simp [F_need_change, ft, fin]
theorem needch_no {d : D} (hs : SeqAt.shaped d = true) (hf : fitsCh d = false) (μ : Sto) : g_need_change [.d d] μ = .er ⟨"InvalidChange", none⟩ μ := by
  have ft := fits_change_spec d hs μ
  rw [hf] at ft
  rw [show g_need_change = fnOf 1 1 F_need_change from rfl, fnOf1]
  simp [F_need_change, ft, fin]
theorem needw_d (d : D) (μ : Sto) : g_need_worth_d [.d d] μ = if wholeD d (-far) far = true then .ok (.d .none) μ else .er ⟨"InvalidWorth", none⟩ μ := by
  have w := whole_spec d (-far) far μ
  unfold far at w
  rw [show g_need_worth_d [.d d] μ = fnOf 2 2 F_need_worth [.d d, .d (.int (-1000000000000000000000000000000))] μ from rfl, fnOf2]
  cases h : wholeD d (-far) far with
  | true => unfold far at h; rw [h] at w; simp [F_need_worth, w, fin]
  | false => unfold far at h; rw [h] at w; simp [F_need_worth, w, fin]
theorem whole_far {w : Int} (h1 : -far ≤ w) (h2 : w ≤ far) : wholeD (.int w) (-far) far = true := by simp [wholeD, h1, h2]
theorem sh_psd (ps : List Pc) : SeqAt.shaped (.tuple (ps.map Pc.d)) = true := (sh_ps ps).shaped (by decide)
theorem fits_ok {ps : List Pc} (h : ChOk ps) {w : Int} (h1 : -far ≤ w) (h2 : w ≤ far) (μ : Sto) : g_fits [.d (.tuple (ps.map Pc.d)), .d (.int w)] μ = .ok (.d (.bool (pieceOf ps w).isSome)) μ := by
  have f : ∀ b : D, fin μ.length (.rt (.d b) μ) = .ok (.d b) μ := fun b => x_fin _ _ _ rfl
  have n1 := needch_ok (sh_psd ps) (fitsCh_ok h) μ
  have n2 := needw_d (.int w) μ
  rw [whole_far h1 h2, if_pos rfl] at n2
  have po := piece_of_spec ps w μ
  rw [show g_fits = fnOf 2 2 F_fits from rfl, fnOf2]
  cases ho : pieceOf ps w with
  | none => rw [ho] at po; simp [F_fits, n1, n2, po, pD, f]
  | some p =>
    rw [ho] at po
    have nn : isNonW (.d p.d) = false := rfl
    simp [F_fits, n1, n2, po, pD, nn, f]
theorem changed_ok {ps : List Pc} (h : ChOk ps) {w : Int} (h1 : -far ≤ w) (h2 : w ≤ far) (μ : Sto) : g_changed [.d (.tuple (ps.map Pc.d)), .d (.int w)] μ = .ok (.d (.int (changedI ps w))) μ := by
  have f : ∀ b : D, fin μ.length (.rt (.d b) μ) = .ok (.d b) μ := fun b => x_fin _ _ _ rfl
  have n1 := needch_ok (sh_psd ps) (fitsCh_ok h) μ
  have n2 := needw_d (.int w) μ
  rw [whole_far h1 h2, if_pos rfl] at n2
  have po := changed_by_spec ps w μ
  rw [show g_changed = fnOf 2 2 F_changed from rfl, fnOf2]
  simp [F_changed, n1, n2, po, f]
theorem fits_ch {d : D} (hs : SeqAt.shaped d = true) (hf : fitsCh d = false) (w : D) (μ : Sto) : g_fits [.d d, .d w] μ = .er ⟨"InvalidChange", none⟩ μ := by
  have n1 := needch_no hs hf μ
  rw [show g_fits = fnOf 2 2 F_fits from rfl, fnOf2]
  simp [F_fits, n1, fin]
theorem changed_ch {d : D} (hs : SeqAt.shaped d = true) (hf : fitsCh d = false) (w : D) (μ : Sto) : g_changed [.d d, .d w] μ = .er ⟨"InvalidChange", none⟩ μ := by
  have n1 := needch_no hs hf μ
  rw [show g_changed = fnOf 2 2 F_changed from rfl, fnOf2]
  simp [F_changed, n1, fin]
theorem fits_w {ps : List Pc} (h : ChOk ps) {d : D} (hw : wholeD d (-far) far = false) (μ : Sto) : g_fits [.d (.tuple (ps.map Pc.d)), .d d] μ = .er ⟨"InvalidWorth", none⟩ μ := by
  have n1 := needch_ok (sh_psd ps) (fitsCh_ok h) μ
  have n2 := needw_d d μ
  rw [hw, if_neg Bool.false_ne_true] at n2
  rw [show g_fits = fnOf 2 2 F_fits from rfl, fnOf2]
  simp [F_fits, n1, n2, fin]
theorem changed_w {ps : List Pc} (h : ChOk ps) {d : D} (hw : wholeD d (-far) far = false) (μ : Sto) : g_changed [.d (.tuple (ps.map Pc.d)), .d d] μ = .er ⟨"InvalidWorth", none⟩ μ := by
  have n1 := needch_ok (sh_psd ps) (fitsCh_ok h) μ
  have n2 := needw_d d μ
  rw [hw, if_neg Bool.false_ne_true] at n2
  rw [show g_changed = fnOf 2 2 F_changed from rfl, fnOf2]
  simp [F_changed, n1, n2, fin]
theorem sh_std (s : St) : SeqAt.shaped s.d = true := (sh_st s).shaped (by decide)
theorem meets_ok {s : St} (h : StOk s) {w : Int} (h1 : -far ≤ w) (h2 : w ≤ far) (μ : Sto) : g_meets [.d s.d, .d (.int w)] μ = .ok (.d (.bool (metI s w))) μ := by
  have f : ∀ b : D, fin μ.length (.rt (.d b) μ) = .ok (.d b) μ := fun b => x_fin _ _ _ rfl
  have n1 := needst_ok (sh_std s) (fitsSt_ok h) μ
  have n2 := needw_d (.int w) μ
  rw [whole_far h1 h2, if_pos rfl] at n2
  have r1 := risen_spec (s := s) μ
  have r2 := sign_of_spec (s := s) μ
  have i1 : dIx (rise s).d (.int 1) = some (rise s).wk.d := rfl
  have mm := x_mulI (a := signI s) (b := w) (mulOk_l (by unfold signI; split <;> decide))
  have iw := in_walk_spec (rise s).wk (signI s * w) μ
  rw [met_eq] at iw
  rw [show g_meets = fnOf 2 2 F_meets from rfl, fnOf2]
  simp [F_meets, n1, n2, r1, i1, r2, mm, iw, f]
theorem meets_st {d : D} (hs : SeqAt.shaped d = true) (hf : fitsSt d = false) (w : D) (μ : Sto) : g_meets [.d d, .d w] μ = .er ⟨"InvalidStatement", none⟩ μ := by
  have n1 := needst_no hs hf μ
  rw [show g_meets = fnOf 2 2 F_meets from rfl, fnOf2]
  simp [F_meets, n1, fin]
theorem meets_w {s : St} (h : StOk s) {d : D} (hw : wholeD d (-far) far = false) (μ : Sto) : g_meets [.d s.d, .d d] μ = .er ⟨"InvalidWorth", none⟩ μ := by
  have n1 := needst_ok (sh_std s) (fitsSt_ok h) μ
  have n2 := needw_d d μ
  rw [hw, if_neg Bool.false_ne_true] at n2
  rw [show g_meets = fnOf 2 2 F_meets from rfl, fnOf2]
  simp [F_meets, n1, n2, fin]
end Pure

set_option linter.all false
set_option Elab.async false
set_option maxRecDepth 100000
set_option maxHeartbeats 1000000
/-! The plain law of k01: any value is judged rightly. -/
namespace Pure
open PySem Mi Mir
theorem nm_ch : nmC clsL ⟨"InvalidChange", none⟩ = some ("change value" : Str) := by kernel_rfl
theorem nm_st : nmC clsL ⟨"InvalidStatement", none⟩ = some ("statement value" : Str) := by kernel_rfl
theorem nm_w : nmC clsL ⟨"InvalidWorth", none⟩ = some ("worth value" : Str) := by kernel_rfl
theorem look1 : List.lookup ("fits" : Str) [("fits", g_fits), ("changed", g_changed)] = some g_fits := by kernel_rfl
theorem look2 : List.lookup ("changed" : Str) [("fits", g_fits), ("changed", g_changed)] = some g_changed := by kernel_rfl
theorem sv_ne : dNe (.str "statement value") (.str "statement value") = some (.bool false) := ne_self (by kernel_rfl)
theorem cc_ne : dNe (.list [.str "change value", .str "change value"]) (.list [.str "change value", .str "change value"]) = some (.bool false) := ne_self (by kernel_rfl)
theorem ww_ne : dNe (.list [.str "worth value", .str "worth value", .str "worth value"]) (.list [.str "worth value", .str "worth value", .str "worth value"]) = some (.bool false) := ne_self (by kernel_rfl)
theorem bb_ne (b : Bool) : dNe (.bool b) (.bool b) = some (.bool false) := by cases b <;> rfl
theorem cc_mul : dMul (.list [.str "change value"]) (.int 2) = some (.list [.str "change value", .str "change value"]) := rfl
theorem ww_mul : dMul (.list [.str "worth value"]) (.int 3) = some (.list [.str "worth value", .str "worth value", .str "worth value"]) := rfl
theorem is_change_spec {d : D} (hs : SeqAt.shaped d = true) (μ : Sto) : g_is_change [.d d] μ = .ok (.d (.bool (fitsCh d))) μ := by
  have ft := fits_change_spec d hs μ
  rw [show g_is_change = fnOf 1 1 F_is_change from rfl, fnOf1]
  simp [F_is_change, ft, fin]
theorem is_statement_spec {d : D} (hs : SeqAt.shaped d = true) (μ : Sto) : g_is_statement [.d d] μ = .ok (.d (.bool (fitsSt d))) μ := by
  have ft := fits_statement_spec d hs μ
  rw [show g_is_statement = fnOf 1 1 F_is_statement from rfl, fnOf1]
  simp [F_is_statement, ft, fin]
def jb1 : SF := (sSeq (sIf (eOr (eOp dNe (eCall g_fits (aCons (eVar 0) (aCons (eVar 3) aNil))) (eNotN (eCall g__law_piece (aCons (eVar 0) (aCons (eVar 3) aNil))))) (eNot (eIsi .bool (eCall g_fits (aCons (eVar 0) (aCons (eVar 3) aNil)))))) (sRet (eBl false)) sNil)
    (sIf (eOp dNe (eCall g_changed (aCons (eVar 0) (aCons (eVar 3) aNil))) (eCall g__law_changed (aCons (eVar 0) (aCons (eVar 3) aNil)))) (sRet (eBl false)) sNil))
def jb2 : SF := (sIf (eOp dNe (eCall g_meets (aCons (eVar 0) (aCons (eVar 3) aNil))) (eOr (eOp dEq (eBlt bLen (aCons (eOp dIx (eVar 0) (eInt 1)) aNil)) (eInt 1)) (eCall g__law_has (aCons (eOp dIx (eOp dIx (eVar 0) (eInt 1)) (eInt 1)) (aCons (eOp dIx (eOp dIx (eVar 0) (eInt 1)) (eInt 2)) (aCons (eVar 3) aNil)))))) (sRet (eBl false)) sNil)
theorem pd_none (o : Option Pc) : (!isNonW (.d (pD o))) = o.isSome := by cases o <;> rfl
theorem jb1_ok {ps : List Pc} (h : ChOk ps) {w : Int} (h1 : -far ≤ w) (h2 : w ≤ far) (x1 x2 x4 : Option W) (μ : Sto) : jb1 [some (.d (.tuple (ps.map Pc.d))), x1, x2, some (.d (.int w)), x4] μ = .nx [some (.d (.tuple (ps.map Pc.d))), x1, x2, some (.d (.int w)), x4] μ := by
  unfold jb1
  have a := fits_ok h h1 h2 μ
  have b := lpiece_of_spec ps w μ
  have c := changed_ok h h1 h2 μ
  have d := lchanged_spec ps w μ
  simp [a, b, c, d, pd_none, bb_ne, isTy, dNeI]
theorem jb2_ok {s : St} (h : StOk s) {w : Int} (h1 : -far ≤ w) (h2 : w ≤ far) (x1 x2 x4 : Option W) (μ : Sto) : jb2 [some (.d s.d), x1, x2, some (.d (.int w)), x4] μ = .nx [some (.d s.d), x1, x2, some (.d (.int w)), x4] μ := by
  unfold jb2
  have a := meets_ok h h1 h2 μ
  have i1 : dIx s.d (.int 1) = some s.wk.d := rfl
  obtain ⟨ps, k⟩ := s
  cases k with
  | first =>
    have l : bLen [Wk.d .first] = some (.int 1) := rfl
    simp [a, i1, l, dEqI, metI, bb_ne]
  | place =>
    have l : bLen [Wk.d .place] = some (.int 1) := rfl
    simp [a, i1, l, dEqI, metI, bb_ne]
  | way u lo hi =>
    have l : bLen [Wk.d (.way u lo hi)] = some (.int 3) := rfl
    have j1 : dIx (Wk.d (.way u lo hi)) (.int 1) = some (oD lo) := rfl
    have j2 : dIx (Wk.d (.way u lo hi)) (.int 2) = some (oD hi) := rfl
    have b := lhas_spec lo hi w μ
    simp [a, i1, l, dEqI, metI, bb_ne, j1, j2, b]
theorem jl1 {ps : List Pc} (h : ChOk ps) (x1 x2 x4 : Option W) (μ : Sto) : ∀ (ws : List Int) (x3 : Option W), (∀ w ∈ ws, -far ≤ w ∧ w ≤ far) → ∃ x3', forL (tName 3) jb1 (ws.map .int) [some (.d (.tuple (ps.map Pc.d))), x1, x2, x3, x4] μ = .nx [some (.d (.tuple (ps.map Pc.d))), x1, x2, x3', x4] μ
  | [], x3, _ => ⟨x3, rfl⟩
  | w :: ws, x3, hw => by
    obtain ⟨x3', ih⟩ := jl1 h x1 x2 x4 μ ws (some (.d (.int w))) fun v hv => hw v (List.mem_cons_of_mem _ hv)
    have b := jb1_ok h (hw w List.mem_cons_self).1 (hw w List.mem_cons_self).2 x1 x2 x4 μ
    exact ⟨x3', by rw [← ih, List.map_cons, forL]; simp only [x_tName, List.set_cons_succ, List.set_cons_zero, b]⟩
theorem jl2 {s : St} (h : StOk s) (x1 x2 x4 : Option W) (μ : Sto) : ∀ (ws : List Int) (x3 : Option W), (∀ w ∈ ws, -far ≤ w ∧ w ≤ far) → ∃ x3', forL (tName 3) jb2 (ws.map .int) [some (.d s.d), x1, x2, x3, x4] μ = .nx [some (.d s.d), x1, x2, x3', x4] μ
  | [], x3, _ => ⟨x3, rfl⟩
  | w :: ws, x3, hw => by
    obtain ⟨x3', ih⟩ := jl2 h x1 x2 x4 μ ws (some (.d (.int w))) fun v hv => hw v (List.mem_cons_of_mem _ hv)
    have b := jb2_ok h (hw w List.mem_cons_self).1 (hw w List.mem_cons_self).2 x1 x2 x4 μ
    exact ⟨x3', by rw [← ih, List.map_cons, forL]; simp only [x_tName, List.set_cons_succ, List.set_cons_zero, b]⟩
def jtail : SF := (sSeq (sFor (tName 3) (iSeq (eIf (eVar 2) (eTup (aCons (eUn dNeg (eInt 20)) (aCons (eInt 3) (aCons (eInt 50) aNil)))) (eLst aNil))) jb2)
    (sRet (eBl true)))
theorem forL_nil (t : TF) (B : SF) (ρ : Mi.Env) (μ : Sto) : forL t B [] ρ μ = .nx ρ μ := rfl
theorem tail_no {d : D} (x1 x3 x4 : Option W) (μ : Sto) : jtail [some (.d d), x1, some (.d (.bool false)), x3, x4] μ = .rt (.d (.bool true)) μ := by
  unfold jtail
  simp [items, forL]
theorem tail_yes {s : St} (h : StOk s) (x1 x3 x4 : Option W) (μ : Sto) : jtail [some (.d s.d), x1, some (.d (.bool true)), x3, x4] μ = .rt (.d (.bool true)) μ := by
  obtain ⟨y, e⟩ := jl2 h x1 (some (.d (.bool true))) x4 μ [-20, 3, 50] x3 (fun w hw => by
    simp at hw
    rcases hw with rfl | rfl | rfl <;> decide)
  simp only [List.map_cons, List.map_nil] at e
  unfold jtail
  simp [items, e]
theorem judged_spec {d : D} (hs : Sh 60 d) (μ : Sto) : g__law_judged [.d d] μ = .ok (.d (.bool true)) μ := by
  have f : ∀ b : D, fin μ.length (.rt (.d b) μ) = .ok (.d b) μ := fun b => x_fin _ _ _ rfl
  have sh := hs.shaped (by decide)
  have l1 := lchange_spec (hs.mono (by decide : 60 ≤ 62)) μ
  have l2 := lstatement_spec (hs.mono (by decide : 60 ≤ 63)) μ
  have p1 := is_change_spec sh μ
  have p2 := is_statement_spec sh μ
  have p30 : dPow (.int 10) (.int 30) = some (.int far) := rfl
  rw [show g__law_judged = fnOf 1 5 F__law_judged from rfl, fnOf1]
  rw [show F__law_judged = (sSeq (sPar 1 2 (eCall g__law_is_change (aCons (eVar 0) aNil)) (eCall g__law_is_statement (aCons (eVar 0) aNil)))
    (sSeq (sIf (eOr (eOp dNe (eCall g_is_change (aCons (eVar 0) aNil)) (eVar 1)) (eNot (eIsi .bool (eCall g_is_change (aCons (eVar 0) aNil))))) (sRet (eBl false)) sNil)
    (sSeq (sIf (eOr (eOp dNe (eCall g_is_statement (aCons (eVar 0) aNil)) (eVar 2)) (eNot (eIsi .bool (eCall g_is_statement (aCons (eVar 0) aNil))))) (sRet (eBl false)) sNil)
    (sSeq (sIf (eAnd (eNot (eVar 1)) (eOp dNe (eLcW [4] 4 (aCons (eFn "fits") (aCons (eFn "changed") aNil)) (eTry (nmC clsL) (eCallV 4 [("fits", g_fits), ("changed", g_changed)] (aCons (eVar 0) (aCons (eInt 0) aNil))))) (eOp dMul (eLst (aCons (eStr "change value") aNil)) (eInt 2)))) (sRet (eBl false)) sNil)
    (sSeq (sIf (eAnd (eNot (eVar 2)) (eOp dNe (eTry (nmC clsL) (eCall g_meets (aCons (eVar 0) (aCons (eInt 0) aNil)))) (eStr "statement value"))) (sRet (eBl false)) sNil)
    (sSeq (sFor (tName 3) (iSeq (eIf (eVar 1) (eTup (aCons (eUn dNeg (eInt 31)) (aCons (eInt 0) (aCons (eInt 7) (aCons (eOp dPow (eInt 10) (eInt 30)) aNil))))) (eLst aNil))) jb1)
    jtail)))))) from rfl]
  rw [x_sSeq, x_sPar]
  simp only [x_eCall, x_aCons, x_aNil, x_eVar, List.getElem?_cons_zero, R.bind_ok, l1, l2, R.bindS_ok, List.replicate, Nat.reduceSub, List.set_cons_succ, List.set_cons_zero]
  rw [x_sSeq, x_sIf]
  simp only [x_eOr, x_eOp, x_eNot, x_eIsi, x_eCall, x_aCons, x_aNil, x_eVar, List.getElem?_cons_zero, List.getElem?_cons_succ, R.bind_ok, p1, view_d, Option.bind_some, bb_ne, Option.map_some, ofO_some, R.test_ok, Bool.false_eq_true, if_false, isTy, Bool.not_true, RS.test_ok, x_sNil]
  rw [x_sSeq, x_sIf]
  simp only [x_eOr, x_eOp, x_eNot, x_eIsi, x_eCall, x_aCons, x_aNil, x_eVar, List.getElem?_cons_zero, List.getElem?_cons_succ, R.bind_ok, p2, view_d, Option.bind_some, bb_ne, Option.map_some, ofO_some, R.test_ok, Bool.false_eq_true, if_false, isTy, Bool.not_true, RS.test_ok, x_sNil]
  cases h1 : fitsCh d with
  | false =>
    have a := fits_ch sh h1 (.int 0) μ
    have b := changed_ch sh h1 (.int 0) μ
    have h2 : fitsSt d = false ∨ fitsSt d = true := by cases fitsSt d <;> simp
    rw [x_sSeq, x_sIf]
    simp [wipeE, lcW, look1, look2, a, b, nm_ch, cc_mul, cc_ne]
    rcases h2 with h2 | h2
    · have c := meets_st sh h2 (.int 0) μ
      rw [h2]
      simp [c, nm_st, sv_ne, items, forL_nil, tail_no, f]
    · obtain ⟨s, hst, rfl⟩ := st_conv h2
      rw [h2]
      have e := tail_yes hst (some (.d (.bool false))) none none μ
      simp [items, forL_nil, e, f]
  | true =>
    obtain ⟨l, rfl⟩ : ∃ l, d = .tuple l := by cases d <;> simp [fitsCh] at h1; exact ⟨_, rfl⟩
    obtain ⟨ps, hc, rfl⟩ := ch_conv h1
    rw [x_sSeq, x_sIf]
    simp only [x_eAnd, x_eNot, x_eVar, List.getElem?_cons_zero, List.getElem?_cons_succ, R.test_ok, Bool.not_true, Bool.false_eq_true, if_false, RS.test_ok, x_sNil]
    have e1 := fun x2 x3 x4 => jl1 hc (some (.d (.bool true))) x2 x4 μ [-31, 0, 7, far] x3 (fun w hw => by
      simp at hw
      rcases hw with rfl | rfl | rfl | rfl <;> decide)
    simp only [List.map_cons, List.map_nil] at e1
    cases h2 : fitsSt (.tuple (ps.map Pc.d)) with
    | false =>
      have c := meets_st sh h2 (.int 0) μ
      obtain ⟨x3', e1⟩ := e1 (some (.d (.bool false))) none none
      simp [c, nm_st, sv_ne, items, p30, e1, tail_no, f]
    | true =>
      obtain ⟨s, hst, es⟩ := st_conv h2
      obtain ⟨x3', e1⟩ := e1 (some (.d (.bool true))) none none
      have e := tail_yes hst (some (.d (.bool true))) x3' none μ
      rw [← es] at e
      simp [items, p30, e1, e, f]
end Pure

set_option linter.all false
set_option Elab.async false
set_option maxRecDepth 100000
set_option maxHeartbeats 1000000
/-! The plain law: values of any kind. -/
namespace Pure
open PySem Mi Mir
open TL (tl ext_tl len_tl numL)
structure Sa (x : Str) : Prop where
  ch : ∀ c ∈ tl x, c < 128
  len : x.length ≤ 100
theorem sa_lit {x : Str} (h : ((tl x).all fun c => decide (c < 128)) = true) (hl : x.length ≤ 100) : Sa x := ⟨fun c hc => by
  have := List.all_eq_true.mp h c hc
  simpa using this, hl⟩
/-- a value of depth n at most, its parts of a size that grows with k -/
inductive Od (k : Nat) : Nat → D → Prop
  | non {n : Nat} : Od k n .none
  | bl {n : Nat} (b : Bool) : Od k n (.bool b)
  | int {n : Nat} (i : Int) (h : i.natAbs ≤ 10 ^ 40 + k) : Od k n (.int i)
  | str {n : Nat} (x : Str) (h : Sa x) : Od k n (.str x)
  | tup {n : Nat} (l : List D) (hl : l.length ≤ 100 + k) (h : ∀ x ∈ l, Od k n x) : Od k (n + 1) (.tuple l)
  | lst {n : Nat} (l : List D) (hl : l.length ≤ 100 + k) (h : ∀ x ∈ l, Od k n x) : Od k (n + 1) (.list l)
theorem Od.mono {k k' : Nat} {n : Nat} {d : D} (h : Od k n d) (hk : k ≤ k') : ∀ {n'}, n ≤ n' → Od k' n' d := by
  induction h with
  | non => exact fun _ => .non
  | bl b => exact fun _ => .bl b
  | int i h => exact fun _ => .int i (by omega)
  | str x h => exact fun _ => .str x h
  | tup l hl h ih =>
    intro n' hn
    obtain ⟨m, rfl⟩ : ∃ m, n' = m + 1 := ⟨n' - 1, by omega⟩
    exact .tup l (by omega) fun x hx => ih x hx (by omega)
  | lst l hl h ih =>
    intro n' hn
    obtain ⟨m, rfl⟩ : ∃ m, n' = m + 1 := ⟨n' - 1, by omega⟩
    exact .lst l (by omega) fun x hx => ih x hx (by omega)
theorem Od.sh {k n : Nat} {d : D} (h : Od k n d) : Sh n d := by
  induction h with
  | non => exact ⟨rfl, Nat.zero_le _⟩
  | bl b => exact ⟨rfl, Nat.zero_le _⟩
  | int i h => exact ⟨rfl, Nat.zero_le _⟩
  | str x h => 
    have : SeqAt.shaped (.str x) = true := shaped_iff.mpr ⟨by
      rw [PyData.canLay0]
      show x.cps.all (· < 0x110000) = true
      rw [← Array.all_toList, List.all_eq_true]
      intro c hc
      exact decide_eq_true (Nat.lt_trans (h.ch c hc) (by decide)), Nat.zero_le _⟩
    exact (sh_str this).mono (Nat.zero_le _)
  | tup l hl h ih => exact Sh.tup ih
  | lst l hl h ih => exact Sh.lst ih
theorem od_o {k n : Nat} {o : Option Int} (h : EndOk o) : Od k n (oD o) := by
  cases o with
  | none => exact .non
  | some i =>
    obtain ⟨h1, h2⟩ := h i rfl
    have hf : far = 10 ^ 30 := rfl
    refine .int i ?_
    have : i.natAbs ≤ 10 ^ 30 := by omega
    exact Nat.le_trans this (Nat.le_trans (by decide : 10 ^ 30 ≤ 10 ^ 40) (Nat.le_add_right _ _))
theorem od_i {k n : Nat} {i : Int} (h1 : -far ≤ i) (h2 : i ≤ far) : Od k n (.int i) := od_o (o := some i) fun j e => by cases e; exact ⟨h1, h2⟩
theorem sa_wd (b : Bool) : Sa (wd b) := by cases b <;> exact sa_lit (by decide +kernel) (by decide +kernel)
theorem sa_way (b : Bool) : Sa (wayS b) := by cases b <;> exact sa_lit (by decide +kernel) (by decide +kernel)
theorem od_pc {p : Pc} (h : PcOk p) : Od 0 1 p.d := .tup _ (by simp) (mem4 (od_o h.lo) (od_o h.hi) (.str _ (sa_wd _)) (od_i h.by1 h.by2))
theorem od_ps {ps : List Pc} (h : ChOk ps) : Od 0 2 (.tuple (ps.map Pc.d)) := .tup _ (by rw [List.length_map]; have := h.four; omega) fun x hx => by
  obtain ⟨p, hp, rfl⟩ := List.mem_map.mp hx
  exact od_pc (h.all p hp)
theorem od_wk {ps : List Pc} {w : Wk} (h : WkOk ps w) : Od 0 1 w.d := by
  cases w with
  | first => exact .tup _ (by simp) (mem1' (.str _ (sa_lit (by decide +kernel) (by decide +kernel))))
  | place => exact .tup _ (by simp) (mem1' (.str _ (sa_lit (by decide +kernel) (by decide +kernel))))
  | way u lo hi => exact .tup _ (by simp) (mem3' (.str _ (sa_way u)) (od_o h.1) (od_o h.2.1))
theorem od_st {s : St} (h : StOk s) : Od 0 3 s.d := .tup _ (by simp) (mem2' (od_ps h.ch) ((od_wk h.wk).mono (Nat.le_refl _) (by decide)))
/-! the law's odd values -/
def oddL : List D := [.none, .bool true, .bool false, .int 0, .int 1, .int 2, .int (-1), .int far, .int (far + 1), .int (-(10 * far)), .str "", .str "add", .str "set", .str "up", .str "first", .tuple [], .list []]
def oddM : List D := [.tuple [.int 0, .int 9, .str "add", .int 1], .tuple [.tuple [.int 0, .int 9, .str "add", .int 1]], .tuple [.str "up", .none, .none], .tuple [.str "place"], .tuple [.int 1, .int 2], .str "sett"]
theorem forall_of_all {α : Type} {P : α → Prop} : ∀ {l : List α}, List.foldr (fun a p => P a ∧ p) True l → ∀ x ∈ l, P x
  | a :: r, h, x, hx => by
    rcases List.mem_cons.mp hx with rfl | hx
    · exact h.1
    · exact forall_of_all h.2 x hx
theorem oddL_ok : ∀ d ∈ oddL ++ oddM, Od 0 2 d := by
  refine forall_of_all ?_
  have s : ∀ x : Str, ((tl x).all fun c => decide (c < 128)) = true → x.length ≤ 100 → ∀ {n}, Od 0 n (.str x) := fun x h1 h2 n => .str x (sa_lit h1 h2)
  have p : ∀ {n}, Od 0 (n + 1) (.tuple [.int 0, .int 9, .str "add", .int 1]) := fun {n} => .tup _ (by simp) (mem4 (.int _ (by decide)) (.int _ (by decide)) (s _ (by decide +kernel) (by decide +kernel)) (.int _ (by decide)))
  refine ⟨.non, .bl _, .bl _, .int _ (by decide), .int _ (by decide), .int _ (by decide), .int _ (by decide), .int _ (by decide), .int _ (by decide), .int _ (by decide), s _ (by decide +kernel) (by decide +kernel), s _ (by decide +kernel) (by decide +kernel), s _ (by decide +kernel) (by decide +kernel), s _ (by decide +kernel) (by decide +kernel), s _ (by decide +kernel) (by decide +kernel), .tup _ (by simp) (fun x hx => by cases hx), .lst _ (by simp) (fun x hx => by cases hx), p, .tup _ (by simp) (mem1' p), .tup _ (by simp) (mem3' (s _ (by decide +kernel) (by decide +kernel)) .non .non), .tup _ (by simp) (mem1' (s _ (by decide +kernel) (by decide +kernel))), .tup _ (by simp) (mem2' (.int _ (by decide)) (.int _ (by decide))), s _ (by decide +kernel) (by decide +kernel), True.intro⟩
theorem p31 : dPow (.int 10) (.int 31) = some (.int (10 * far)) := rfl
theorem lc_odd (g : GF) (k : Nat) (n : Nat) (j : Int) (hg : ∀ μ, DrumAt μ k → ∃ d μ', Od 0 n d ∧ Rolled k μ μ' ∧ g [.m k, .d (.int j)] μ = .ok (.d d) μ') (x2 x3 : Option W) : ∀ (l : List D) (acc : List D) (μ : Sto), DrumAt μ k → ∃ ds μ', ds.length = l.length ∧ (∀ d ∈ ds, Od 0 n d) ∧ Rolled k μ μ' ∧
    lcL (tName 4) eYes (eCall g (aCons (eVar 0) (aCons (eOp dSub (eVar 1) (eInt 1)) aNil))) [some (.m k), some (.d (.int (j + 1))), x2, x3, none] l acc μ = .ok (.d (.list (acc ++ ds))) μ'
  | [], acc, μ, h => ⟨[], μ, rfl, (fun d hd => by cases hd), Rolled.refl h, by simp [lcL]⟩
  | a :: l, acc, μ, h => by
    obtain ⟨d, μ1, hd, r1, e1⟩ := hg μ h
    obtain ⟨ds, μ2, hl, hds, r2, e2⟩ := lc_odd g k n j hg x2 x3 l (acc ++ [d]) μ1 (r1.at_ h.lt)
    have ej : j + 1 - 1 = j := by omega
    refine ⟨d :: ds, μ2, by simp [hl], fun x hx => ?_, r1.trans r2, ?_⟩
    · rcases List.mem_cons.mp hx with rfl | hx
      · exact hd
      · exact hds x hx
    · unfold lcL
      simp only [x_tName, x_eYes, x_eCall, x_aCons, x_aNil, x_eVar, x_eOp, x_eInt, List.set_cons_succ, List.set_cons_zero, List.getElem?_cons_zero, List.getElem?_cons_succ, R.bind_ok, view_d, Option.bind_some, x_subI, ej, Option.map_some, ofO_some, e1, e2]
      simp
theorem odd_spec (k : Nat) : ∀ (j n : Nat), j ≤ n → j ≤ 2 → ∀ μ, DrumAt μ k → ∃ d μ', Od 0 (j + 2) d ∧ Rolled k μ μ' ∧ g__law_odd (n + 1) [.m k, .d (.int j)] μ = .ok (.d d) μ'
  | j, n, hj, hj2, μ, h => by
    have f : ∀ (d : D) (ν : Sto), ν.length = μ.length → fin μ.length (.rt (.d d) ν) = .ok (.d d) ν := fun d ν hν => x_fin _ _ _ hν
    have p30 : dPow (.int 10) (.int 30) = some (.int far) := rfl
    have a1 : dAdd (.list oddL) (.list oddM) = some (.list (oddL ++ oddM)) := dAdd_short _ _ (by decide)
    have pre : g__law_odd (n + 1) [.m k, .d (.int j)] μ = fin μ.length ((sSeq (sIf (eOr (eOp dEq (eVar 1) (eInt 0)) (eOp dLt (eCall g__law_roll (aCons (eVar 0) (aCons (eInt 8) aNil))) (eInt 5))) (sRet (eCall g__law_some (aCons (eVar 0) (aCons (eVar 2) aNil)))) sNil)
        (sSeq (sAsg 3 (eLc [4] (tName 4) (iRange1 (eCall g__law_roll (aCons (eVar 0) (aCons (eInt 5) aNil)))) eYes (eCall (g__law_odd n) (aCons (eVar 0) (aCons (eOp dSub (eVar 1) (eInt 1)) aNil)))))
        (sRet (eIf (eOp dEq (eCall g__law_roll (aCons (eVar 0) (aCons (eInt 3) aNil))) (eInt 0)) (eVar 3) (eBlt bTup (aCons (eVar 3) aNil))))))
        [some (.m k), some (.d (.int j)), some (.d (.list (oddL ++ oddM))), none, none] μ) := by
      rw [show g__law_odd (n + 1) = fnOf 2 5 (F__law_odd (g__law_odd n)) from rfl, fnOf2]
      unfold F__law_odd
      rw [x_sSeq, x_sAsg]
      simp only [x_eLst, x_eTup, x_aCons, x_aNil, x_eNon, x_eBl, x_eInt, x_eStr, x_eUn, x_eOp, R.bind_ok, view_d, Option.bind_some, p30, p31, x_negI, x_addI, Option.map_some, ofO_some, asDs_cons, asDs_nil, R.bindS_ok, List.replicate, Nat.reduceSub, List.set_cons_succ, List.set_cons_zero]
      rw [show [PyData.none, .bool true, .bool false, .int 0, .int 1, .int 2, .int (-1), .int far, .int (far + 1), .int (-(10 * far)), .str "", .str "add", .str "set", .str "up", .str "first", .tuple [], .list []] = oddL from rfl]
      rw [x_sSeq, x_sAsg]
      simp only [x_eLst, x_eTup, x_aCons, x_aNil, x_eNon, x_eVar, x_eInt, x_eStr, x_eOp, List.getElem?_cons_zero, List.getElem?_cons_succ, R.bind_ok, view_d, Option.bind_some, Option.map_some, ofO_some, asDs_cons, asDs_nil]
      rw [show [PyData.tuple [.int 0, .int 9, .str "add", .int 1], .tuple [.tuple [.int 0, .int 9, .str "add", .int 1]], .tuple [.str "up", .none, .none], .tuple [.str "place"], .tuple [.int 1, .int 2], .str "sett"] = oddM from rfl]
      simp only [a1, Option.map_some, ofO_some, R.bindS_ok, List.set_cons_succ, List.set_cons_zero]
    rw [pre]
    have low : ∀ μ1, Rolled k μ μ1 → ∃ d μ', Od 0 (j + 2) d ∧ Rolled k μ μ' ∧ g__law_some [.m k, .d (.list (oddL ++ oddM))] μ1 = .ok (.d d) μ' := fun μ1 r1 => by
      obtain ⟨d, μ2, hd, r2, e⟩ := some_spec (l := oddL ++ oddM) (r1.at_ h.lt) (by simp [oddL]) (by decide)
      exact ⟨d, μ2, (oddL_ok d hd).mono (Nat.le_refl _) (by omega), r1.trans r2, e⟩
    match j, n, hj, hj2 with
    | 0, n, _, _ =>
      obtain ⟨d, μ', hd, r, e⟩ := low μ (Rolled.refl h)
      refine ⟨d, μ', hd, r, ?_⟩
      have q : dEq (.int ((0 : Nat) : Int)) (.int 0) = some (.bool true) := rfl
      rw [x_sSeq, x_sIf]
      simp only [x_eOr, x_eOp, x_eVar, x_eInt, List.getElem?_cons_zero, List.getElem?_cons_succ, R.bind_ok, view_d, Option.bind_some, q, Option.map_some, ofO_some, R.test_ok, if_true, RS.test_ok, x_sRet, x_eCall, x_aCons, x_aNil, e, R.bindS_ok]
      exact f _ _ r.len
    | j + 1, n + 1, hj, hj2 =>
      have q : dEq (.int ((j + 1 : Nat) : Int)) (.int 0) = some (.bool false) := by
        rw [dEqI, beq_eq_false_iff_ne.mpr]; omega
      obtain ⟨q1, μ1, ql, qh, r1, e1⟩ := roll_spec (many := 8) h (by decide) (by decide)
      by_cases h5 : q1 < 5
      · obtain ⟨d, μ', hd, r, e⟩ := low μ1 r1
        refine ⟨d, μ', hd, r, ?_⟩
        rw [x_sSeq, x_sIf]
        simp only [x_eOr, x_eOp, x_eVar, x_eInt, List.getElem?_cons_zero, List.getElem?_cons_succ, R.bind_ok, view_d, Option.bind_some, q, Option.map_some, ofO_some, R.test_ok, Bool.false_eq_true, if_false, x_eCall, x_aCons, x_aNil, e1, x_ltI, h5, decide_true, RS.test_ok, if_true, x_sRet, e, R.bindS_ok]
        exact f _ _ r.len
      · obtain ⟨q2, μ2, q2l, q2h, r2, e2⟩ := roll_spec (many := 5) (r1.at_ h.lt) (by decide) (by decide)
        have h2 := r2.at_ (r1.at_ h.lt).lt
        obtain ⟨ds, μ3, hl, hds, r3, e3⟩ := lc_odd (g__law_odd (n + 1)) k (j + 2) j (fun ν hν => odd_spec k j n (by omega) (by omega) ν hν) (some (.d (.list (oddL ++ oddM)))) none (rangeD 0 q2) [] μ2 h2
        have h3 := r3.at_ h2.lt
        obtain ⟨q4, μ4, q4l, q4h, r4, e4⟩ := roll_spec (many := 3) h3 (by decide) (by decide)
        have r14 := ((r1.trans r2).trans r3).trans r4
        have hlen : ds.length ≤ 100 := by rw [hl, x_rangeD_len]; omega
        have rg : -(LIM : Int) ≤ q2 ∧ q2 ≤ LIM := by unfold LIM; omega
        have ej : ((j + 1 : Nat) : Int) = (j : Int) + 1 := by omega
        rw [← ej] at e3
        by_cases hq : q4 = 0
        · subst hq
          refine ⟨.list ds, μ4, .lst _ (by omega) hds, r14, ?_⟩
          rw [x_sSeq, x_sIf]
          simp only [x_eOr, x_eOp, x_eVar, x_eInt, List.getElem?_cons_zero, List.getElem?_cons_succ, R.bind_ok, view_d, Option.bind_some, q, Option.map_some, ofO_some, R.test_ok, Bool.false_eq_true, if_false, x_eCall, x_aCons, x_aNil, e1, x_ltI, h5, decide_false, RS.test_ok, x_sNil]
          rw [x_sSeq, x_sAsg, x_eLc, x_iRange1]
          simp only [x_eCall, x_aCons, x_aNil, x_eVar, x_eInt, List.getElem?_cons_zero, R.bind_ok, e2, rg, if_true, and_self]
          simp only [wipeE, List.set_cons_succ, List.set_cons_zero, e3, List.nil_append, R.bindS_ok]
          rw [x_sRet, x_eIf]
          simp only [x_eOp, x_eCall, x_aCons, x_aNil, x_eVar, x_eInt, List.getElem?_cons_zero, List.getElem?_cons_succ, R.bind_ok, e4, view_d, Option.bind_some, dEqI, beq_self_eq_true, Option.map_some, ofO_some, R.test_ok, if_true, R.bindS_ok]
          exact f _ _ r14.len
        · have hq2 : (q4 == 0) = false := beq_eq_false_iff_ne.mpr hq
          refine ⟨.tuple ds, μ4, .tup _ (by omega) hds, r14, ?_⟩
          rw [x_sSeq, x_sIf]
          simp only [x_eOr, x_eOp, x_eVar, x_eInt, List.getElem?_cons_zero, List.getElem?_cons_succ, R.bind_ok, view_d, Option.bind_some, q, Option.map_some, ofO_some, R.test_ok, Bool.false_eq_true, if_false, x_eCall, x_aCons, x_aNil, e1, x_ltI, h5, decide_false, RS.test_ok, x_sNil]
          rw [x_sSeq, x_sAsg, x_eLc, x_iRange1]
          simp only [x_eCall, x_aCons, x_aNil, x_eVar, x_eInt, List.getElem?_cons_zero, R.bind_ok, e2, rg, if_true, and_self]
          simp only [wipeE, List.set_cons_succ, List.set_cons_zero, e3, List.nil_append, R.bindS_ok]
          rw [x_sRet, x_eIf]
          simp only [x_eOp, x_eCall, x_eBlt, x_aCons, x_aNil, x_eVar, x_eInt, List.getElem?_cons_zero, List.getElem?_cons_succ, R.bind_ok, e4, view_d, Option.bind_some, dEqI, hq2, Option.map_some, ofO_some, R.test_ok, Bool.false_eq_true, if_false, x_views0, x_views1, bTup, R.bindS_ok]
          exact f _ _ r14.len
end Pure

set_option linter.all false
set_option Elab.async false
set_option maxRecDepth 100000
set_option maxHeartbeats 1000000
/-! The plain law: values that are bent. -/
namespace Pure
open PySem Mi Mir
open TL (tl ext_tl len_tl numL)
theorem up_all : ((List.range 128).all fun c => (Unicode.upperOf c).length == 1 && (Unicode.upperOf c).all fun x => decide (x < 128)) = true := by decide +kernel
theorem up_one {c : Nat} (h : c < 128) : (Unicode.upperOf c).length = 1 ∧ ∀ x ∈ Unicode.upperOf c, x < 128 := by
  have z := List.all_eq_true.mp up_all c (List.mem_range.mpr h)
  rw [Bool.and_eq_true] at z
  refine ⟨by simpa using z.1, fun x hx => ?_⟩
  have := List.all_eq_true.mp z.2 x hx
  simpa using this
theorem tl_upper (x : Str) : tl (Txt.upper x) = (tl x).flatMap Unicode.upperOf := by
  show ((x.cps.mapIdx fun i c => (Unicode.upperOf c).toArray).flatten).toList = _
  rw [Array.toList_flatten, Array.toList_mapIdx]
  have z : ∀ (l : List Nat) , (l.mapIdx fun _ c => (Unicode.upperOf c).toArray) = l.map fun c => (Unicode.upperOf c).toArray := fun l => by
    induction l with
    | nil => rfl
    | cons a r ih =>
      rw [List.mapIdx_cons, List.map_cons, ih]
  rw [z, List.map_map, List.flatMap_def]
  congr 1
theorem flat_len : ∀ l : List Nat, (∀ c ∈ l, c < 128) → (l.flatMap Unicode.upperOf).length = l.length
  | [], _ => rfl
  | a :: r, h => by
    rw [List.flatMap_cons, List.length_append, (up_one (h a List.mem_cons_self)).1, flat_len r fun c hc => h c (List.mem_cons_of_mem _ hc), List.length_cons]
    omega
theorem sa_upper {x : Str} (h : Sa x) : mUpper x = some (.str (Txt.upper x)) ∧ Sa (Txt.upper x) := by
  refine ⟨if_pos (by have := h.len; unfold LIM; omega), fun c hc => ?_, ?_⟩
  · rw [tl_upper, List.mem_flatMap] at hc
    obtain ⟨a, ha, hc⟩ := hc
    exact (up_one (h.ch a ha)).2 c hc
  · rw [len_tl, tl_upper, flat_len _ h.ch, ← len_tl]
    exact h.len
theorem sa_cut {x : Str} (h : Sa x) : ∃ y, dCut (.str x) none (some (-1)) = some (.str y) ∧ Sa y := by
  refine ⟨cutT x none (some (-1)), if_pos (by have := h.len; unfold LIM; omega), fun c hc => ?_, ?_⟩
  · have hc : c ∈ cutL (tl x) none (some (-1)) := hc
    exact h.ch c (List.mem_of_mem_drop (List.mem_of_mem_take hc))
  · have e : (cutT x none (some (-1))).length = (cutL (tl x) none (some (-1))).length := by rw [len_tl]; rfl
    rw [e]
    unfold cutL
    rw [List.length_take, List.length_drop]
    have := h.len
    rw [len_tl] at this
    omega
theorem sa_int {i : Int} (h : i.natAbs ≤ 10 ^ 40 + 50) : bStr [.int i] = some (.str (toString i)) ∧ Sa (toString i) := by
  have h2 : i.natAbs < 10 ^ 41 := by
    have : (10 : Nat) ^ 40 + 50 < 10 ^ 41 := by decide
    omega
  have tl_iT : tl (toString i : Str) = if i < 0 then 45 :: numL i.natAbs else numL i.natAbs := by
    cases i with
    | ofNat n =>
      rw [if_neg (by simp)]
      exact TL.tl_num n
    | negSucc n =>
      rw [if_pos (by exact Int.negSucc_lt_zero n)]
      show tl (Str.ofString (toString (Int.negSucc n))) = _
      rw [TL.tl_ofString]
      have e : toString (Int.negSucc n) = "-" ++ toString ((n + 1 : Nat) : Int) := rfl
      rw [e, String.toList_append, List.map_append, ← TL.tl_ofString (toString ((n + 1 : Nat) : Int)), TL.tl_num]
      rfl
  have nl : (numL i.natAbs).length ≤ 41 := TL.numL_len (by decide) h2
  refine ⟨if_pos ?_, fun c hc => ?_, ?_⟩
  · by_cases h0 : i.natAbs = 0
    · rw [h0]; decide
    · refine Nat.lt_of_lt_of_le ((Nat.log2_lt h0).mpr (show i.natAbs < 2 ^ 200 from ?_)) (by decide)
      exact Nat.lt_of_lt_of_le h2 (by decide)
  · rw [tl_iT] at hc
    have dg : ∀ c ∈ numL i.natAbs, c < 128 := fun c hc => by have := TL.numL_digits i.natAbs c hc; omega
    split at hc
    · rcases List.mem_cons.mp hc with h | h
      · omega
      · exact dg c h
    · exact dg c hc
  · rw [len_tl, tl_iT]
    split
    · rw [List.length_cons]; omega
    · omega
theorem sa_words : ∀ x ∈ (["add", "set", "up", "down", "first", "place"] : List Str), Sa x := by
  refine forall_of_all ⟨?_, ?_, ?_, ?_, ?_, ?_, True.intro⟩ <;> exact sa_lit (by decide +kernel) (by decide +kernel)
/-- what stands near a value -/
def nearS (x y z : Str) : List D := [.str "add", .str "set", .str "up", .str "down", .str "first", .str "place", .str y, .str z]
theorem bent_leaf {μ : Sto} {k K n : Nat} {d : D} (h : DrumAt μ k) (hd : Od K n d) (hK : K ≤ 40) (r : GF) (x3 x4 : Option W) : ∃ d' μ', Od (K + 1) (n + 5) d' ∧ Rolled k μ μ' ∧
    (sSeq (sAsg 2 (eLst (aCons (eCall (g__law_odd 60) (aCons (eVar 0) (aCons (eInt 1) aNil))) (aCons (eCall (g__law_odd 60) (aCons (eVar 0) (aCons (eInt 1) aNil))) aNil))))
    (sSeq (sIf (eIsi .str (eVar 1)) (sAsg 2 (eOp dAdd (eVar 2) (eLst (aCons (eStr "add") (aCons (eStr "set") (aCons (eStr "up") (aCons (eStr "down") (aCons (eStr "first") (aCons (eStr "place") (aCons (eSl dCut (eVar 1) none (some (eUn dNeg (eInt 1)))) (aCons (eM0 mUpper (eVar 1)) aNil))))))))))) (sIf (eIsi .int (eVar 1)) (sAsg 2 (eOp dAdd (eVar 2) (eLst (aCons (eOp dAdd (eVar 1) (eInt 1)) (aCons (eOp dSub (eVar 1) (eInt 1)) (aCons (eNotT (eVar 1)) (aCons (eBlt bStr (aCons (eVar 1) aNil)) (aCons (eUn dNeg (eVar 1)) (aCons eNon aNil))))))))) sNil))
    (sRet (eCall g__law_some (aCons (eVar 0) (aCons (eVar 2) aNil))))))
      [some (.m k), some (.d d), none, x3, x4] μ = .rt (.d d') μ' := by
  obtain ⟨o1, μ1, ho1, r1, e1⟩ := odd_spec k 1 59 (by omega) (by omega) μ h
  have h1 := r1.at_ h.lt
  obtain ⟨o2, μ2, ho2, r2, e2⟩ := odd_spec k 1 59 (by omega) (by omega) μ1 h1
  have h2 := r2.at_ h1.lt
  have e1 : g__law_odd 60 [.m k, .d (.int 1)] μ = .ok (.d o1) μ1 := e1
  have e2 : g__law_odd 60 [.m k, .d (.int 1)] μ1 = .ok (.d o2) μ2 := e2
  have O1 : Od (K + 1) (n + 5) o1 := ho1.mono (by omega) (by omega)
  have O2 : Od (K + 1) (n + 5) o2 := ho2.mono (by omega) (by omega)
  have mr : ∀ l : List D, (∀ x ∈ l, Od (K + 1) (n + 5) x) → l ≠ [] → l.length < 1000 → ∃ d' μ', Od (K + 1) (n + 5) d' ∧ Rolled k μ μ' ∧ g__law_some [.m k, .d (.list l)] μ2 = .ok (.d d') μ' := fun l hl h0 h1 => by
    obtain ⟨d', μ3, hm, r3, e3⟩ := some_spec h2 h0 h1
    exact ⟨d', μ3, hl d' hm, (r1.trans r2).trans r3, e3⟩
  rw [x_sSeq, x_sAsg]
  simp only [x_eLst, x_eCall, x_aCons, x_aNil, x_eVar, x_eInt, List.getElem?_cons_zero, R.bind_ok, e1, e2, asDs_cons, asDs_nil, Option.map_some, ofO_some, R.bindS_ok, List.set_cons_succ, List.set_cons_zero]
  have ad0 : ∀ a b : List D, a.length + b.length ≤ 1000 → dAdd (.list a) (.list b) = some (.list (a ++ b)) := fun a b h => if_pos (by unfold LIM; omega)
  have plain : isTy .str d = false → isTy .int d = false → ∃ d' μ', Od (K + 1) (n + 5) d' ∧ Rolled k μ μ' ∧
      (sSeq (sIf (eIsi .str (eVar 1)) (sAsg 2 (eOp dAdd (eVar 2) (eLst (aCons (eStr "add") (aCons (eStr "set") (aCons (eStr "up") (aCons (eStr "down") (aCons (eStr "first") (aCons (eStr "place") (aCons (eSl dCut (eVar 1) none (some (eUn dNeg (eInt 1)))) (aCons (eM0 mUpper (eVar 1)) aNil))))))))))) (sIf (eIsi .int (eVar 1)) (sAsg 2 (eOp dAdd (eVar 2) (eLst (aCons (eOp dAdd (eVar 1) (eInt 1)) (aCons (eOp dSub (eVar 1) (eInt 1)) (aCons (eNotT (eVar 1)) (aCons (eBlt bStr (aCons (eVar 1) aNil)) (aCons (eUn dNeg (eVar 1)) (aCons eNon aNil))))))))) sNil))
      (sRet (eCall g__law_some (aCons (eVar 0) (aCons (eVar 2) aNil))))) [some (.m k), some (.d d), some (.d (.list [o1, o2])), x3, x4] μ2 = .rt (.d d') μ' := fun t1 t2 => by
    obtain ⟨d', μ', a, b, c⟩ := mr [o1, o2] (mem2' O1 O2) (by simp) (by simp)
    exact ⟨d', μ', a, b, by simp [t1, t2, c]⟩
  cases hd with
  | non => exact plain rfl rfl
  | tup l hl hx => exact plain rfl rfl
  | lst l hl hx => exact plain rfl rfl
  | str x hx =>
    obtain ⟨y, ey, hy⟩ := sa_cut hx
    obtain ⟨eu, hu⟩ := sa_upper hx
    obtain ⟨d', μ', a, b, c⟩ := mr ([o1, o2] ++ nearS x y (Txt.upper x)) (fun v hv => by
      rcases List.mem_append.mp hv with hv | hv
      · exact mem2' O1 O2 v hv
      · have w := fun z hz => (Od.str (k := K + 1) (n := n + 5) z (sa_words z hz))
        simp only [nearS, List.mem_cons, List.not_mem_nil, or_false] at hv
        rcases hv with rfl | rfl | rfl | rfl | rfl | rfl | rfl | rfl
        · exact w _ (by simp)
        · exact w _ (by simp)
        · exact w _ (by simp)
        · exact w _ (by simp)
        · exact w _ (by simp)
        · exact w _ (by simp)
        · exact .str _ hy
        · exact .str _ hu) (by simp) (by simp [nearS])
    refine ⟨d', μ', a, b, ?_⟩
    have t1 : isTy .str (.str x) = true := rfl
    have ad := ad0 [o1, o2] (nearS x y (Txt.upper x)) (by simp [nearS])
    rw [x_sSeq, x_sIf]
    simp only [x_eIsi, x_eVar, List.getElem?_cons_zero, List.getElem?_cons_succ, R.bind_ok, view_d, Option.bind_some, t1, ofO_some, RS.test_ok, if_true, x_sAsg, x_eOp, x_eLst, x_aCons, x_aNil, x_eStr, x_eSl, x_part0, x_part1, x_eUn, x_eInt, x_negI, Option.map_some, ey, x_eM0, eu, asDs_cons, asDs_nil]
    rw [show [PyData.str "add", .str "set", .str "up", .str "down", .str "first", .str "place", .str y, .str (Txt.upper x)] = nearS x y (Txt.upper x) from rfl]
    simp only [ad, Option.map_some, ofO_some, R.bindS_ok, List.set_cons_succ, List.set_cons_zero, x_sRet, x_eCall, x_aCons, x_aNil, x_eVar, List.getElem?_cons_zero, List.getElem?_cons_succ, R.bind_ok, c]
  | bl v =>
    obtain ⟨d', μ', a, b, c⟩ := mr ([o1, o2] ++ [.int (bI v + 1), .int (bI v - 1), .bool (!v), .str (if v then "True" else "False"), .int (-(bI v)), .none]) (fun w hw => by
      rcases List.mem_append.mp hw with hw | hw
      · exact mem2' O1 O2 w hw
      · simp only [List.mem_cons, List.not_mem_nil, or_false] at hw
        rcases hw with rfl | rfl | rfl | rfl | rfl | rfl
        · exact .int _ (by cases v <;> simp [bI] <;> omega)
        · exact .int _ (by cases v <;> simp [bI] <;> omega)
        · exact .bl _
        · exact .str _ (by cases v <;> exact sa_lit (by decide +kernel) (by decide +kernel))
        · exact .int _ (by cases v <;> simp [bI] <;> omega)
        · exact .non) (by simp) (by simp)
    refine ⟨d', μ', a, b, ?_⟩
    have ad := ad0 [o1, o2] [.int (bI v + 1), .int (bI v - 1), .bool (!v), .str (if v then "True" else "False"), .int (-(bI v)), .none] (by simp)
    have t1 : isTy .str (.bool v) = false := rfl
    have t2 : isTy .int (.bool v) = true := rfl
    have q1 : dAdd (.bool v) (.int 1) = some (.int (bI v + 1)) := rfl
    have q2 : dSub (.bool v) (.int 1) = some (.int (bI v - 1)) := rfl
    have q3 : truD (.bool v) = some v := rfl
    have q4 : bStr [.bool v] = some (.str (if v then "True" else "False")) := rfl
    have q5 : dNeg (.bool v) = some (.int (-(bI v))) := rfl
    rw [x_sSeq, x_sIf]
    simp only [x_eIsi, x_eVar, List.getElem?_cons_zero, List.getElem?_cons_succ, R.bind_ok, view_d, Option.bind_some, t1, t2, ofO_some, RS.test_ok, Bool.false_eq_true, if_false, if_true, x_sIf, x_sAsg, x_eOp, x_eLst, x_aCons, x_aNil, x_eInt, q1, q2, x_eNotT, q3, x_eBlt, x_views0, x_views1, q4, x_eUn, q5, x_eNon, Option.map_some, asDs_cons, asDs_nil, ad, R.bindS_ok, List.set_cons_succ, List.set_cons_zero, x_sRet, x_eCall, c]
  | int i hi =>
    obtain ⟨es, hs⟩ := sa_int (i := i) (by omega)
    obtain ⟨d', μ', a, b, c⟩ := mr ([o1, o2] ++ [.int (i + 1), .int (i - 1), .bool (!(i != 0)), .str (toString i), .int (-i), .none]) (fun w hw => by
      rcases List.mem_append.mp hw with hw | hw
      · exact mem2' O1 O2 w hw
      · simp only [List.mem_cons, List.not_mem_nil, or_false] at hw
        rcases hw with rfl | rfl | rfl | rfl | rfl | rfl
        · exact .int _ (by omega)
        · exact .int _ (by omega)
        · exact .bl _
        · exact .str _ hs
        · exact .int _ (by omega)
        · exact .non) (by simp) (by simp)
    refine ⟨d', μ', a, b, ?_⟩
    have ad := ad0 [o1, o2] [.int (i + 1), .int (i - 1), .bool (!(i != 0)), .str (toString i), .int (-i), .none] (by simp)
    have t1 : isTy .str (.int i) = false := rfl
    have t2 : isTy .int (.int i) = true := rfl
    have q3 : truD (.int i) = some (i != 0) := rfl
    rw [x_sSeq, x_sIf]
    simp only [x_eIsi, x_eVar, List.getElem?_cons_zero, List.getElem?_cons_succ, R.bind_ok, view_d, Option.bind_some, t1, t2, ofO_some, RS.test_ok, Bool.false_eq_true, if_false, if_true, x_sIf, x_sAsg, x_eOp, x_eLst, x_aCons, x_aNil, x_eInt, x_addI, x_subI, x_eNotT, q3, x_eBlt, x_views0, x_views1, es, x_eUn, x_negI, x_eNon, Option.map_some, asDs_cons, asDs_nil, ad, R.bindS_ok, List.set_cons_succ, List.set_cons_zero, x_sRet, x_eCall, c]
theorem cutT_to (l : List D) (i : Int) (h0 : 0 ≤ i) : dCut (.tuple l) none (some i) = some (.tuple (l.take i.toNat)) := by
  show some (PyData.tuple (cutL _ none (some i))) = _
  have h1 : ¬ i < 0 := by omega
  simp only [cutL, six, h1, if_false, List.drop_zero, Nat.sub_zero]
  congr 2
  by_cases h : i.toNat ≤ l.length
  · rw [Nat.min_eq_left h]
  · rw [Nat.min_eq_right (by omega), List.take_of_length_le (Nat.le_refl _), List.take_of_length_le (by omega)]
theorem cutT_from (l : List D) (i : Int) (h0 : 0 ≤ i) : dCut (.tuple l) (some i) none = some (.tuple (l.drop i.toNat)) := by
  show some (PyData.tuple (cutL _ (some i) none)) = _
  have h1 : ¬ i < 0 := by omega
  simp only [cutL, six, h1, if_false]
  congr 2
  by_cases h : i.toNat ≤ l.length
  · rw [Nat.min_eq_left h, List.take_of_length_le (by simp)]
  · rw [Nat.min_eq_right (by omega), List.drop_of_length_le (Nat.le_refl _), List.drop_of_length_le (by omega)]
    simp
theorem bent_spec (k K : Nat) (hK : K ≤ 40) : ∀ (fuel n : Nat) (d : D), n < fuel → n ≤ 60 → Od K n d → ∀ μ, DrumAt μ k → ∃ d' μ', Od (K + 1) (n + 5) d' ∧ Rolled k μ μ' ∧ g__law_bent fuel [.m k, .d d] μ = .ok (.d d') μ'
  | fuel + 1, n, d, hf, hn, hd, μ, h => by
    have f : ∀ (d : D) (ν : Sto), Rolled k μ ν → fin μ.length (.rt (.d d) ν) = .ok (.d d) ν := fun d ν hν => x_fin _ _ _ hν.len
    have sh := hd.sh.shaped (show n ≤ 64 by omega)
    rw [show g__law_bent (fuel + 1) = fnOf 2 5 (F__law_bent (g__law_bent fuel)) from rfl]
    simp only [fnOf2]
    unfold F__law_bent
    cases ht : isTy .tuple d with
    | false =>
      obtain ⟨d', μ', a, b, c⟩ := bent_leaf h hd hK (g__law_bent fuel) none none
      refine ⟨d', μ', a, b, ?_⟩
      rw [x_sSeq, x_sIf]
      simp only [x_eOr, x_eNot, x_eIsi, x_eVar, List.replicate, Nat.reduceSub, List.getElem?_cons_zero, List.getElem?_cons_succ, R.bind_ok, view_d, Option.bind_some, ht, ofO_some, R.test_ok, Bool.not_false, if_true, RS.test_ok]
      rw [c]
      exact f _ _ b
    | true =>
      obtain ⟨l, rfl⟩ : ∃ l, d = .tuple l := by cases d <;> simp [isTy] at ht; exact ⟨_, rfl⟩
      have q0 := dEqD (a := .tuple l) (b := .tuple []) sh rfl
      have q0' : PyData.eqv (.tuple l) (.tuple []) = l.isEmpty := by cases l <;> rfl
      rw [q0'] at q0
      cases hl0 : l.isEmpty with
      | true =>
        rw [hl0] at q0
        obtain ⟨d', μ', a, b, c⟩ := bent_leaf h hd hK (g__law_bent fuel) none none
        refine ⟨d', μ', a, b, ?_⟩
        rw [x_sSeq, x_sIf]
        simp only [x_eOr, x_eNot, x_eIsi, x_eVar, x_eOp, x_eTup, x_aNil, asDs_nil, List.replicate, Nat.reduceSub, List.getElem?_cons_zero, List.getElem?_cons_succ, R.bind_ok, view_d, Option.bind_some, Option.map_some, ht, ofO_some, R.test_ok, Bool.not_true, Bool.false_eq_true, if_false, q0, if_true, RS.test_ok]
        rw [c]
        exact f _ _ b
      | false =>
        rw [hl0] at q0
        obtain ⟨q, μ1, ql, qh, r1, e1⟩ := roll_spec (many := 7) h (by decide) (by decide)
        have h1 := r1.at_ h.lt
        by_cases hq : q = 0
        · subst hq
          obtain ⟨d', μ', a, b, c⟩ := bent_leaf h1 hd hK (g__law_bent fuel) none none
          refine ⟨d', μ', a, r1.trans b, ?_⟩
          rw [x_sSeq, x_sIf]
          simp only [x_eOr, x_eNot, x_eIsi, x_eVar, x_eOp, x_eTup, x_aNil, x_aCons, x_eCall, x_eInt, asDs_nil, List.replicate, Nat.reduceSub, List.getElem?_cons_zero, List.getElem?_cons_succ, R.bind_ok, view_d, Option.bind_some, Option.map_some, ht, ofO_some, R.test_ok, Bool.not_true, Bool.false_eq_true, if_false, q0, e1, dEqI, beq_self_eq_true, if_true, RS.test_ok]
          rw [c]
          exact f _ _ (r1.trans b)
        · have hq2 : (q == 0) = false := beq_eq_false_iff_ne.mpr hq
          obtain ⟨m, rfl⟩ : ∃ m, n = m + 1 := by cases hd; exact ⟨_, rfl⟩
          obtain ⟨hlen, hx⟩ : l.length ≤ 100 + K ∧ ∀ x ∈ l, Od K m x := by
            cases hd with
            | tup _ h1 h2 => exact ⟨h1, h2⟩
          have hpos : 0 < l.length := by
            cases l with
            | nil => cases hl0
            | cons a r => simp
          obtain ⟨at_, μ2, a1, a2, r2, e2⟩ := roll_spec (many := l.length) h1 (by omega) (Int.lt_of_le_of_lt (show (l.length : Int) ≤ 1000 by omega) (by decide))
          have h2 := r2.at_ h1.lt
          obtain ⟨way, μ3, w1, w2, r3, e3⟩ := roll_spec (many := 9) h2 (by decide) (by decide)
          have h3 := r3.at_ h2.lt
          have r13 := (r1.trans r2).trans r3
          have bl : bLen [.tuple l] = some (.int l.length) := rfl
          have c1 := cutT_to l at_ a1
          have c2 := cutT_from l (at_ + 1) (by omega)
          have c3 := cutT_to l (at_ + 1) (by omega)
          have c4 := cutT_from l at_ a1
          have addT : ∀ a b : List D, a.length + b.length ≤ 1000 → dAdd (.tuple a) (.tuple b) = some (.tuple (a ++ b)) := fun a b h => if_pos (by unfold LIM; omega)
          have hlt : at_.toNat < l.length := by omega
          have go : ∀ G : SF, (sSeq (sIf (eOr (eNot (eIsi .tuple (eVar 1))) (eOr (eOp dEq (eVar 1) (eTup aNil)) (eOp dEq (eCall g__law_roll (aCons (eVar 0) (aCons (eInt 7) aNil))) (eInt 0)))) (sSeq (sAsg 2 (eLst (aCons (eCall (g__law_odd 60) (aCons (eVar 0) (aCons (eInt 1) aNil))) (aCons (eCall (g__law_odd 60) (aCons (eVar 0) (aCons (eInt 1) aNil))) aNil))))
              (sSeq (sIf (eIsi .str (eVar 1)) (sAsg 2 (eOp dAdd (eVar 2) (eLst (aCons (eStr "add") (aCons (eStr "set") (aCons (eStr "up") (aCons (eStr "down") (aCons (eStr "first") (aCons (eStr "place") (aCons (eSl dCut (eVar 1) none (some (eUn dNeg (eInt 1)))) (aCons (eM0 mUpper (eVar 1)) aNil))))))))))) (sIf (eIsi .int (eVar 1)) (sAsg 2 (eOp dAdd (eVar 2) (eLst (aCons (eOp dAdd (eVar 1) (eInt 1)) (aCons (eOp dSub (eVar 1) (eInt 1)) (aCons (eNotT (eVar 1)) (aCons (eBlt bStr (aCons (eVar 1) aNil)) (aCons (eUn dNeg (eVar 1)) (aCons eNon aNil))))))))) sNil))
              (sRet (eCall g__law_some (aCons (eVar 0) (aCons (eVar 2) aNil)))))) sNil)
              (sSeq (sPar 3 4 (eCall g__law_roll (aCons (eVar 0) (aCons (eBlt bLen (aCons (eVar 1) aNil)) aNil))) (eCall g__law_roll (aCons (eVar 0) (aCons (eInt 9) aNil)))) G))
              (some (.m k) :: some (.d (.tuple l)) :: List.replicate (5 - 2) none) μ = G [some (.m k), some (.d (.tuple l)), none, some (.d (.int at_)), some (.d (.int way))] μ3 := fun G => by
            rw [x_sSeq, x_sIf]
            simp only [x_eOr, x_eNot, x_eIsi, x_eVar, x_eOp, x_eTup, x_aNil, x_aCons, x_eCall, x_eInt, asDs_nil, List.replicate, Nat.reduceSub, List.getElem?_cons_zero, List.getElem?_cons_succ, R.bind_ok, view_d, Option.bind_some, Option.map_some, ht, ofO_some, R.test_ok, Bool.not_true, Bool.false_eq_true, if_false, q0, e1, dEqI, hq2, RS.test_ok, x_sNil]
            rw [x_sSeq, x_sPar]
            simp only [x_eCall, x_eBlt, x_aCons, x_aNil, x_eVar, x_eInt, List.getElem?_cons_zero, List.getElem?_cons_succ, R.bind_ok, x_views0, x_views1, view_d, Option.bind_some, Option.map_some, bl, ofO_some, e2, e3, R.bindS_ok, List.set_cons_succ, List.set_cons_zero]
          rw [go]
          have tst : ∀ (j : Int) (b : Bool), (way == j) = b → eOp dEq (eVar 4) (eInt j) [some (.m k), some (.d (.tuple l)), none, some (.d (.int at_)), some (.d (.int way))] μ3 = .ok (.d (.bool b)) μ3 := fun j b e => by
            simp [dEqI, e]
          have up1 : ∀ ds : List D, ds.length ≤ l.length + 1 → (∀ x ∈ ds, Od (K + 1) (m + 5) x) → Od (K + 1) (m + 1 + 5) (.tuple ds) := fun ds h1 h2 => by
            rw [show m + 1 + 5 = (m + 5) + 1 by omega]
            exact .tup _ (by omega) h2
          have old : ∀ x ∈ l, Od (K + 1) (m + 5) x := fun x hx' => (hx x hx').mono (by omega) (by omega)
          have hw : way = 0 ∨ way = 1 ∨ way = 2 ∨ way = 3 ∨ 4 ≤ way := by omega
          rcases hw with rfl | rfl | rfl | rfl | hw
          · have ad := addT (l.take at_.toNat) (l.drop (at_ + 1).toNat) (by simp; omega)
            refine ⟨.tuple (l.take at_.toNat ++ l.drop (at_ + 1).toNat), μ3, up1 _ (by simp; omega) (fun x hx' => ?_), r13, ?_⟩
            · rcases List.mem_append.mp hx' with hx' | hx'
              · exact old x (List.mem_of_mem_take hx')
              · exact old x (List.mem_of_mem_drop hx')
            · rw [x_sSeq, x_sIf, tst 0 true rfl]
              simp only [RS.test_ok, if_true, x_sRet, x_eOp, x_eSl, x_part0, x_part1, x_eVar, x_eInt, List.getElem?_cons_zero, List.getElem?_cons_succ, R.bind_ok, view_d, Option.bind_some, Option.map_some, ofO_some, c1, x_addI, c2, ad, R.bindS_ok]
              exact f _ _ r13
          · have ad := addT (l.take (at_ + 1).toNat) (l.drop at_.toNat) (by simp; omega)
            refine ⟨.tuple (l.take (at_ + 1).toNat ++ l.drop at_.toNat), μ3, up1 _ (by simp; omega) (fun x hx' => ?_), r13, ?_⟩
            · rcases List.mem_append.mp hx' with hx' | hx'
              · exact old x (List.mem_of_mem_take hx')
              · exact old x (List.mem_of_mem_drop hx')
            · rw [x_sSeq, x_sIf, tst 0 false rfl]
              simp only [RS.test_ok, Bool.false_eq_true, if_false, x_sNil]
              rw [x_sSeq, x_sIf, tst 1 true rfl]
              simp only [RS.test_ok, if_true, x_sRet, x_eOp, x_eSl, x_part0, x_part1, x_eVar, x_eInt, List.getElem?_cons_zero, List.getElem?_cons_succ, R.bind_ok, view_d, Option.bind_some, Option.map_some, ofO_some, c3, x_addI, c4, ad, R.bindS_ok]
              exact f _ _ r13
          · have rv : dRev (.tuple l) = some (.tuple l.reverse) := rfl
            refine ⟨.tuple l.reverse, μ3, up1 _ (by simp) (fun x hx' => old x (List.mem_reverse.mp hx')), r13, ?_⟩
            rw [x_sSeq, x_sIf, tst 0 false rfl]
            simp only [RS.test_ok, Bool.false_eq_true, if_false, x_sNil]
            rw [x_sSeq, x_sIf, tst 1 false rfl]
            simp only [RS.test_ok, Bool.false_eq_true, if_false, x_sNil]
            rw [x_sSeq, x_sIf, tst 2 true rfl]
            simp only [RS.test_ok, if_true, x_sRet, x_eUn, x_eVar, List.getElem?_cons_zero, List.getElem?_cons_succ, R.bind_ok, view_d, Option.bind_some, Option.map_some, ofO_some, rv, R.bindS_ok]
            exact f _ _ r13
          · have bt : bLst [.tuple l] = some (.list l) := rfl
            refine ⟨.list l, μ3, ?_, r13, ?_⟩
            · rw [show m + 1 + 5 = (m + 5) + 1 by omega]
              exact .lst _ (by omega) old
            rw [x_sSeq, x_sIf, tst 0 false rfl]
            simp only [RS.test_ok, Bool.false_eq_true, if_false, x_sNil]
            rw [x_sSeq, x_sIf, tst 1 false rfl]
            simp only [RS.test_ok, Bool.false_eq_true, if_false, x_sNil]
            rw [x_sSeq, x_sIf, tst 2 false rfl]
            simp only [RS.test_ok, Bool.false_eq_true, if_false, x_sNil]
            rw [x_sSeq, x_sIf, tst 3 true rfl]
            simp only [RS.test_ok, if_true, x_sRet, x_eBlt, x_aCons, x_aNil, x_views0, x_views1, x_eVar, List.getElem?_cons_zero, List.getElem?_cons_succ, R.bind_ok, view_d, Option.bind_some, Option.map_some, ofO_some, bt, R.bindS_ok]
            exact f _ _ r13
          · have n0 : (way == 0) = false := beq_eq_false_iff_ne.mpr (by omega)
            have n1 : (way == 1) = false := beq_eq_false_iff_ne.mpr (by omega)
            have n2 : (way == 2) = false := beq_eq_false_iff_ne.mpr (by omega)
            have n3 : (way == 3) = false := beq_eq_false_iff_ne.mpr (by omega)
            have ix : dIx (.tuple l) (.int at_) = some l[at_.toNat] := by
              have := ixN l at_.toNat hlt
              rwa [Int.toNat_of_nonneg a1] at this
            obtain ⟨y, μ4, hy, r4, e4⟩ := bent_spec k K hK fuel m l[at_.toNat] (by omega) (by omega) (hx _ (List.getElem_mem hlt)) μ3 h3
            have ad1 := addT (l.take at_.toNat) [y] (by simp; omega)
            have ad2 := addT (l.take at_.toNat ++ [y]) (l.drop (at_ + 1).toNat) (by simp; omega)
            refine ⟨.tuple (l.take at_.toNat ++ [y] ++ l.drop (at_ + 1).toNat), μ4, up1 _ (by simp; omega) (fun x hx' => ?_), r13.trans r4, ?_⟩
            · rcases List.mem_append.mp hx' with hx' | hx'
              · rcases List.mem_append.mp hx' with hx' | hx'
                · exact old x (List.mem_of_mem_take hx')
                · rw [List.mem_singleton.mp hx']; exact hy
              · exact old x (List.mem_of_mem_drop hx')
            · rw [x_sSeq, x_sIf, tst 0 false n0]
              simp only [RS.test_ok, Bool.false_eq_true, if_false, x_sNil]
              rw [x_sSeq, x_sIf, tst 1 false n1]
              simp only [RS.test_ok, Bool.false_eq_true, if_false, x_sNil]
              rw [x_sSeq, x_sIf, tst 2 false n2]
              simp only [RS.test_ok, Bool.false_eq_true, if_false, x_sNil]
              rw [x_sSeq, x_sIf, tst 3 false n3]
              simp only [RS.test_ok, Bool.false_eq_true, if_false, x_sNil]
              simp only [x_sRet, x_eOp, x_eTup, x_aCons, x_aNil, x_eCall, x_eSl, x_part0, x_part1, x_eVar, x_eInt, List.getElem?_cons_zero, List.getElem?_cons_succ, R.bind_ok, view_d, Option.bind_some, Option.map_some, ofO_some, c1, ix, e4, asDs_cons, asDs_nil, ad1, x_addI, c2, ad2, R.bindS_ok]
              exact f _ _ (r13.trans r4)
end Pure

set_option linter.all false
set_option Elab.async false
set_option maxRecDepth 100000
set_option maxHeartbeats 1000000
/-! The law of k01. -/
namespace Pure
open PySem Mi Mir
theorem odj {k n : Nat} {d : D} (h : Od k n d) (hn : n ≤ 60) (μ : Sto) : g__law_judged [.d d] μ = .ok (.d (.bool true)) μ := judged_spec (h.sh.mono hn) μ
theorem range_int {a b : Int} {d : D} (h : d ∈ rangeD a b) : ∃ j, d = .int j := by
  obtain ⟨k, _, rfl⟩ := List.mem_map.mp h
  exact ⟨_, rfl⟩
def tb : SF := (sSeq (sAsg 4 (eCall (g__law_bent 60) (aCons (eVar 2) (aCons (eIf (eOp dEq (eOp dMod (eBlt bInt (aCons (eVar 6) aNil)) (eInt 3)) (eInt 0)) (eVar 3) (eVar 4)) aNil))))
    (sSeq (sAsg 5 (eCall (g__law_bent 60) (aCons (eVar 2) (aCons (eIf (eOp dEq (eOp dMod (eBlt bInt (aCons (eVar 6) aNil)) (eInt 3)) (eInt 0)) (eOp dIx (eVar 3) (eInt 0)) (eVar 5)) aNil))))
    (sIf (eOr (eNot (eCall g__law_judged (aCons (eVar 4) aNil))) (eOr (eNot (eCall g__law_judged (aCons (eVar 5) aNil))) (eNot (eCall g__law_judged (aCons (eTup (aCons (eVar 5) (aCons (eOp dIx (eVar 3) (eInt 1)) aNil))) aNil))))) (sRet (eBl false)) sNil)))
theorem tb_ok {s : St} (hs : StOk s) {k i : Nat} {μ : Sto} {b c : D} (h : DrumAt μ k) (hi : i < 8) (hb : Od i (3 + 5 * i) b) (hc : Od i (3 + 5 * i) c) (j : Int) (x0 x1 x7 x8 x9 x10 x11 x12 x13 x14 : Option W) :
    ∃ b' c' μ', Od (i + 1) (3 + 5 * (i + 1)) b' ∧ Od (i + 1) (3 + 5 * (i + 1)) c' ∧ Rolled k μ μ' ∧
      tb [x0, x1, some (.m k), some (.d s.d), some (.d b), some (.d c), some (.d (.int j)), x7, x8, x9, x10, x11, x12, x13, x14] μ = .nx [x0, x1, some (.m k), some (.d s.d), some (.d b'), some (.d c'), some (.d (.int j)), x7, x8, x9, x10, x11, x12, x13, x14] μ' := by
  have bi : bInt [.int j] = some (.int j) := rfl
  have dm := x_modI (a := j) (show (0 : Int) < 3 by decide)
  have i0 : dIx s.d (.int 0) = some (.tuple (s.ps.map Pc.d)) := rfl
  have i1 : dIx s.d (.int 1) = some s.wk.d := rfl
  have os := od_st hs
  obtain ⟨y, hy, ey⟩ : ∃ y, Od i (3 + 5 * i) y ∧ eIf (eOp dEq (eOp dMod (eBlt bInt (aCons (eVar 6) aNil)) (eInt 3)) (eInt 0)) (eVar 3) (eVar 4) [x0, x1, some (.m k), some (.d s.d), some (.d b), some (.d c), some (.d (.int j)), x7, x8, x9, x10, x11, x12, x13, x14] μ = .ok (.d y) μ := by
    cases hj : (j % 3 == 0) with
    | true => exact ⟨s.d, os.mono (by omega) (by omega), by simp [bi, dm, dEqI, hj]⟩
    | false => exact ⟨b, hb, by simp [bi, dm, dEqI, hj]⟩
  obtain ⟨b', μ1, hb', r1, e1⟩ := bent_spec k i (by omega) 60 (3 + 5 * i) y (by omega) (by omega) hy μ h
  have h1 := r1.at_ h.lt
  obtain ⟨z, hz, ez⟩ : ∃ z, Od i (3 + 5 * i) z ∧ eIf (eOp dEq (eOp dMod (eBlt bInt (aCons (eVar 6) aNil)) (eInt 3)) (eInt 0)) (eOp dIx (eVar 3) (eInt 0)) (eVar 5) [x0, x1, some (.m k), some (.d s.d), some (.d b'), some (.d c), some (.d (.int j)), x7, x8, x9, x10, x11, x12, x13, x14] μ1 = .ok (.d z) μ1 := by
    cases hj : (j % 3 == 0) with
    | true => exact ⟨.tuple (s.ps.map Pc.d), (od_ps hs.ch).mono (by omega) (by omega), by simp [bi, dm, dEqI, hj, i0]⟩
    | false => exact ⟨c, hc, by simp [bi, dm, dEqI, hj]⟩
  obtain ⟨c', μ2, hc', r2, e2⟩ := bent_spec k i (by omega) 60 (3 + 5 * i) z (by omega) (by omega) hz μ1 h1
  have ht : Od (i + 1) (3 + 5 * i + 5 + 1) (.tuple [c', s.wk.d]) := .tup _ (by simp; omega) (mem2' hc' ((od_wk hs.wk).mono (by omega) (by omega)))
  have j1 := odj hb' (by omega) μ2
  have j2 := odj hc' (by omega) μ2
  have j3 := odj ht (by omega) μ2
  refine ⟨b', c', μ2, hb'.mono (Nat.le_refl _) (by omega), hc'.mono (Nat.le_refl _) (by omega), r1.trans r2, ?_⟩
  unfold tb
  rw [x_sSeq, x_sAsg]
  simp only [x_eCall, x_aCons, x_aNil, ey, x_eVar, List.getElem?_cons_zero, List.getElem?_cons_succ, R.bind_ok, e1, R.bindS_ok, List.set_cons_succ, List.set_cons_zero]
  rw [x_sSeq, x_sAsg]
  simp only [x_eCall, x_aCons, x_aNil, ez, x_eVar, List.getElem?_cons_zero, List.getElem?_cons_succ, R.bind_ok, e2, R.bindS_ok, List.set_cons_succ, List.set_cons_zero]
  rw [x_sIf]
  simp only [x_eOr, x_eNot, x_eCall, x_eTup, x_eOp, x_aCons, x_aNil, x_eVar, x_eInt, List.getElem?_cons_zero, List.getElem?_cons_succ, R.bind_ok, j1, j2, R.test_ok, Bool.not_true, Bool.false_eq_true, if_false, view_d, Option.bind_some, i1, Option.map_some, ofO_some, asDs_cons, asDs_nil, j3, RS.test_ok, x_sNil]
def ob : SF := (sSeq (sAsg 8 (eLstM (aCons (eTry (nmC clsL) (eCall g_fits (aCons (eOp dIx (eVar 3) (eInt 0)) (aCons (eVar 7) aNil)))) aNil)))
    (sSeq (sDrop (eApp (eVar 8) (eTry (nmC clsL) (eCall g_changed (aCons (eOp dIx (eVar 3) (eInt 0)) (aCons (eVar 7) aNil))))))
    (sSeq (sDrop (eApp (eVar 8) (eTry (nmC clsL) (eCall g_meets (aCons (eVar 3) (aCons (eVar 7) aNil))))))
    (sIf (eOp dNe (eVar 8) (eOp dMul (eLst (aCons (eStr "worth value") aNil)) (eInt 3))) (sRet (eBl false)) sNil))))
theorem ob_ok {s : St} (hs : StOk s) {d : D} (hd : wholeD d (-far) far = false) (x0 x1 x2 x4 x5 x6 x8 x9 x10 x11 x12 x13 x14 : Option W) (μ : Sto) : ∃ x8' μ', ob [x0, x1, x2, some (.d s.d), x4, x5, x6, some (.d d), x8, x9, x10, x11, x12, x13, x14] μ = .nx [x0, x1, x2, some (.d s.d), x4, x5, x6, some (.d d), x8', x9, x10, x11, x12, x13, x14] μ' := by
  have i0 : dIx s.d (.int 0) = some (.tuple (s.ps.map Pc.d)) := rfl
  have a := fun ν => fits_w hs.ch hd ν
  have b := fun ν => changed_w hs.ch hd ν
  have c := fun ν => meets_w hs hd ν
  have nw := nm_w
  have m1 := ml_last μ [.str "worth value"]
  have s1 := set_last μ (some (.lst [.str "worth value"])) (some (.lst [.str "worth value", .str "worth value"]))
  have m2 := ml_last μ [.str "worth value", .str "worth value"]
  have s2 := set_last μ (some (.lst [.str "worth value", .str "worth value"])) (some (.lst [.str "worth value", .str "worth value", .str "worth value"]))
  have m3 := ml_last μ [.str "worth value", .str "worth value", .str "worth value"]
  refine ⟨some (.m μ.length), μ ++ [some (.lst [.str "worth value", .str "worth value", .str "worth value"])], ?_⟩
  unfold ob
  rw [x_sSeq, x_sAsg]
  simp only [x_eLstM, x_aCons, x_aNil, x_eTry, x_eCall, x_eOp, x_eVar, x_eInt, List.getElem?_cons_zero, List.getElem?_cons_succ, R.bind_ok, view_d, Option.bind_some, i0, Option.map_some, ofO_some, a, nw, asDs_cons, asDs_nil, R.bindS_ok, List.set_cons_succ, List.set_cons_zero]
  rw [x_sSeq, x_sDrop]
  simp only [x_eApp, x_eVar, List.getElem?_cons_zero, List.getElem?_cons_succ, R.bind_ok, m1, x_aCons, x_aNil, x_eTry, x_eCall, x_eOp, x_eInt, view_d, Option.bind_some, i0, Option.map_some, ofO_some, b, nw, R.bindS_ok]
  rw [if_pos (by simp [LIM])]
  simp only [List.cons_append, List.nil_append, s1, R.bindS_ok]
  rw [x_sSeq, x_sDrop]
  simp only [x_eApp, x_eVar, List.getElem?_cons_zero, List.getElem?_cons_succ, R.bind_ok, m2, x_aCons, x_aNil, x_eTry, x_eCall, x_eOp, x_eInt, view_d, Option.bind_some, i0, Option.map_some, ofO_some, c, nw, R.bindS_ok]
  rw [if_pos (by simp [LIM])]
  simp only [List.cons_append, List.nil_append, s2, R.bindS_ok]
  rw [x_sIf]
  simp only [x_eOp, x_eVar, x_eLst, x_aCons, x_aNil, x_eStr, x_eInt, List.getElem?_cons_zero, List.getElem?_cons_succ, R.bind_ok, asDs_cons, asDs_nil, Option.map_some, ofO_some, view_d, Option.bind_some, ww_mul, x_view_m, m3, ww_ne, RS.test_ok, Bool.false_eq_true, if_false, x_sNil]
def cellB : SF := (sSeq (sAsg 2 (eCall g__law_drum (aCons (eVar 1) (aCons (eInt 3) aNil))))
    (sSeq (sAsg 3 (eCall g__law_statement (aCons (eVar 2) (aCons (eInt 6) aNil))))
    (sSeq (sIf (eOr (eNot (eCall g__law_judged (aCons (eVar 3) aNil))) (eOr (eNot (eCall g__law_judged (aCons (eOp dIx (eVar 3) (eInt 0)) aNil))) (eNot (eCall g__law_is_statement (aCons (eVar 3) aNil))))) (sRet (eBl false)) sNil)
    (sSeq (sPar 4 5 (eVar 3) (eOp dIx (eVar 3) (eInt 0)))
    (sSeq (sFor (tName 6) (iRange1 (eInt 8)) tb)
    (sSeq (sIf (eNot (eCall g__law_judged (aCons (eCall (g__law_odd 60) (aCons (eVar 2) (aCons (eInt 2) aNil))) aNil))) (sRet (eBl false)) sNil)
    (sFor (tName 7) (iSeq (eTup (aCons eNon (aCons (eBl true) (aCons (eOp dAdd (eOp dPow (eInt 10) (eInt 30)) (eInt 1)) (aCons (eOp dSub (eUn dNeg (eOp dPow (eInt 10) (eInt 30))) (eInt 1)) (aCons (eStr "0") aNil))))))) ob)))))))
theorem cell_ok (c : Int) (x0 x2 x3 x4 x5 x6 x7 x8 x9 x10 x11 x12 x13 x14 : Option W) (μ : Sto) : ∃ y2 y3 y4 y5 y6 y7 y8 μ', cellB [x0, some (.d (.int c)), x2, x3, x4, x5, x6, x7, x8, x9, x10, x11, x12, x13, x14] μ = .nx [x0, some (.d (.int c)), y2, y3, y4, y5, y6, y7, y8, x9, x10, x11, x12, x13, x14] μ' := by
  obtain ⟨a, b, ha, hb, hb2, e1⟩ := drum_spec (cell := c) (turn := 3) (μ := μ) (by decide) (by decide)
  have h1 : DrumAt (μ ++ [drum a b]) μ.length := ⟨a, b, by simp, ha, hb, hb2⟩
  obtain ⟨s, μ1, hs, r1, e2⟩ := statement_spec (most := 6) h1 (by decide) (by decide)
  have h2 := r1.at_ h1.lt
  have i0 : dIx s.d (.int 0) = some (.tuple (s.ps.map Pc.d)) := rfl
  have j1 := odj (od_st hs) (by decide) μ1
  have j2 := odj (od_ps hs.ch) (by decide) μ1
  have ls := lstatement_spec ((sh_st s).mono (by decide : 3 ≤ 63)) μ1
  rw [fitsSt_ok hs] at ls
  have p30 : dPow (.int 10) (.int 30) = some (.int far) := rfl
  unfold cellB
  rw [x_sSeq, x_sAsg]
  simp only [x_eCall, x_aCons, x_aNil, x_eVar, x_eInt, List.getElem?_cons_zero, List.getElem?_cons_succ, R.bind_ok, e1, R.bindS_ok, List.set_cons_succ, List.set_cons_zero]
  rw [x_sSeq, x_sAsg]
  simp only [x_eCall, x_aCons, x_aNil, x_eVar, x_eInt, List.getElem?_cons_zero, List.getElem?_cons_succ, R.bind_ok, e2, R.bindS_ok, List.set_cons_succ, List.set_cons_zero]
  rw [x_sSeq, x_sIf]
  simp only [x_eOr, x_eNot, x_eCall, x_eOp, x_aCons, x_aNil, x_eVar, x_eInt, List.getElem?_cons_zero, List.getElem?_cons_succ, R.bind_ok, j1, view_d, Option.bind_some, i0, Option.map_some, ofO_some, j2, ls, R.test_ok, Bool.not_true, Bool.false_eq_true, if_false, RS.test_ok, x_sNil]
  rw [x_sSeq, x_sPar]
  simp only [x_eOp, x_eVar, x_eInt, List.getElem?_cons_zero, List.getElem?_cons_succ, R.bind_ok, view_d, Option.bind_some, i0, Option.map_some, ofO_some, R.bindS_ok, List.set_cons_succ, List.set_cons_zero]
  rw [x_sSeq, x_sFor, x_iRange1]
  simp only [x_eInt, R.bind_ok]
  rw [if_pos (by decide), R.bindS_ok]
  obtain ⟨ρ2, μ2, e3, b8, c8, z6, rfl, _, _, h3⟩ := forL_count (t := tName 6) (B := tb)
    (fun i ρ ν => ∃ b9 c9 z6, ρ = [x0, some (.d (.int c)), some (.m μ.length), some (.d s.d), some (.d b9), some (.d c9), z6, x7, x8, x9, x10, x11, x12, x13, x14] ∧ Od i (3 + 5 * i) b9 ∧ Od i (3 + 5 * i) c9 ∧ DrumAt ν μ.length) 8 (rangeD 0 8) 0 _ μ1 (by rw [x_rangeD_len]; decide) ⟨s.d, .tuple (s.ps.map Pc.d), x6, rfl, od_st hs, (od_ps hs.ch).mono (Nat.le_refl _) (by decide), h2⟩ (by
      rintro i d ρ ν hi hd ⟨b9, c9, z6, rfl, hb, hc, hν⟩
      obtain ⟨j, rfl⟩ := range_int hd
      obtain ⟨b', c', ν', hb', hc', r, e⟩ := tb_ok hs hν hi hb hc j x0 _ x7 x8 x9 x10 x11 x12 x13 x14
      exact ⟨_, rfl, _, ν', e, b', c', _, rfl, hb', hc', r.at_ hν.lt⟩)
  rw [e3]
  dsimp only
  obtain ⟨o, μ3, ho, r3, e4⟩ := odd_spec μ.length 2 59 (by omega) (by omega) μ2 h3
  have e4 : g__law_odd 60 [.m μ.length, .d (.int 2)] μ2 = .ok (.d o) μ3 := e4
  have j4 := odj ho (by decide) μ3
  rw [x_sSeq, x_sIf]
  simp only [x_eNot, x_eCall, x_aCons, x_aNil, x_eVar, x_eInt, List.getElem?_cons_zero, List.getElem?_cons_succ, R.bind_ok, e4, j4, R.test_ok, Bool.not_true, RS.test_ok, Bool.false_eq_true, if_false, x_sNil]
  rw [x_sFor, x_iSeq]
  simp only [x_eTup, x_aCons, x_aNil, x_eNon, x_eBl, x_eOp, x_eUn, x_eInt, x_eStr, R.bind_ok, view_d, Option.bind_some, p30, x_addI, x_negI, x_subI, Option.map_some, ofO_some, asDs_cons, asDs_nil, items, R.bindS_ok]
  obtain ⟨ρ4, μ4, e5, z7, z8, rfl⟩ := forL_keep (t := tName 7) (B := ob)
    (fun ρ _ => ∃ z7 z8, ρ = [x0, some (.d (.int c)), some (.m μ.length), some (.d s.d), some (.d b8), some (.d c8), z6, z7, z8, x9, x10, x11, x12, x13, x14]) [.none, .bool true, .int (far + 1), .int (-far - 1), .str "0"] _ μ3 ⟨x7, x8, rfl⟩ (by
      rintro d hd ρ ν ⟨z7, z8, rfl⟩
      have hw : wholeD d (-far) far = false := by
        simp only [List.mem_cons, List.not_mem_nil, or_false] at hd
        rcases hd with rfl | rfl | rfl | rfl | rfl <;> decide
      obtain ⟨x8', ν', e⟩ := ob_ok hs hw x0 _ _ _ _ _ z8 x9 x10 x11 x12 x13 x14 ν
      exact ⟨_, rfl, _, ν', e, _, _, rfl⟩)
  exact ⟨_, _, _, _, _, _, _, μ4, e5⟩
/-! the written ones -/
def upD' : D := .tuple [.int 0, .int 9, .str "add", .int 1]
def lowD : D := .tuple [.int (-9), .int (-1), .str "set", .int 4]
def someA : List D := [.tuple [upD'], .tuple [lowD, upD'], .tuple [upD', lowD], .tuple [upD', upD'], .tuple [.tuple [.none, .none, .str "set", .int 0]]]
def someB : List D := someA ++ [.tuple [.tuple [.none, .int 5, .str "add", .int 1], .tuple [.int 6, .none, .str "add", .int (-1)]]]
def someC : List D := [.tuple [.tuple [.int 9, .int 0, .str "add", .int 1]], .tuple [.tuple [.int 0, .int 9, .str "add", .int 0]], .tuple [.tuple [.int 0, .none, .str "set", .int 1], .tuple [.int 5, .int 6, .str "set", .int 1]], .tuple [], .tuple [upD', upD', upD', upD', upD']]
def someE : List D := someB ++ someC ++ [.tuple [upD', .tuple [.int 9, .int 12, .str "add", .int 1]]]
def walksL : List D := [.tuple [.str "up", .int 0, .int 0], .tuple [.str "down", .int 1, .int 0], .tuple [.str "first"], .tuple [.str "place"], .tuple [.str "up"], .tuple [.str "first", .int 0, .int 0], .tuple [.str "left", .int 0, .int 0]]
def chk (d : D) : Bool := d.canLay0 && decide (d.depth ≤ 60)
theorem chk_ok {d : D} (h : chk d = true) : Sh 60 d := by
  rw [chk, Bool.and_eq_true, decide_eq_true_eq] at h
  exact ⟨h.1, h.2⟩
theorem someE_sh : ∀ d ∈ someE, Sh 60 d := fun d hd => chk_ok (List.all_eq_true.mp (show someE.all chk = true by kernel_rfl) d hd)
def withW (d : D) : D := .tuple [.tuple [upD', .tuple [.int 10, .int 19, .str "add", .int (-1)]], d]
theorem walks_sh : ∀ d ∈ walksL, Sh 60 (withW d) := fun d hd => chk_ok (List.all_eq_true.mp (show walksL.all (fun d => chk (withW d)) = true by kernel_rfl) d hd)
theorem cut_mem {l : List D} {lo hi : Option Int} {x : D} (h : x ∈ cutL l lo hi) : x ∈ l := List.mem_of_mem_drop (List.mem_of_mem_take h)
theorem law_true : ∀ ns : List Int, ns.length ≤ 63 → (∀ z ∈ ns, Builtin.Int.intBits z ≤ 1048576) → g_law [.d (.list (ns.map .int))] [] = .ok (.d (.bool true)) [] := by
  intro ns hn _
  have ad : dAdd (.list [.int 0]) (.list (ns.map .int)) = some (.list (.int 0 :: ns.map .int)) := by
    rw [dAdd_short _ _ (by simp; unfold LIM; omega)]
    rfl
  have cu : dCut (.list (.int 0 :: ns.map .int)) none (some 8) = some (.list (cutL (.int 0 :: ns.map .int) none (some 8))) := rfl
  have allI : ∀ d ∈ cutL (.int 0 :: ns.map PyData.int) none (some 8), ∃ c, d = .int c := fun d hd => by
    rcases List.mem_cons.mp (cut_mem hd) with rfl | h
    · exact ⟨0, rfl⟩
    · obtain ⟨c, _, rfl⟩ := List.mem_map.mp h
      exact ⟨c, rfl⟩
  rw [show g_law = fnOf 1 15 F_law from rfl, fnOf1]
  unfold F_law
  rw [x_sSeq, x_sFor, x_iSeq, x_eSl]
  simp only [x_eOp, x_eLst, x_aCons, x_aNil, x_eInt, x_eVar, List.getElem?_cons_zero, R.bind_ok, asDs_cons, asDs_nil, view_d, Option.bind_some, ad, Option.map_some, ofO_some, x_part0, x_part1, cu, items, R.bindS_ok, List.replicate, Nat.reduceSub]
  obtain ⟨ρ2, μ2, e2, y1, y2, y3, y4, y5, y6, y7, y8, rfl⟩ := forL_keep (t := tName 1) (B := cellB) (fun ρ _ => ∃ y1 y2 y3 y4 y5 y6 y7 y8, ρ = [some (.d (.list (ns.map .int))), y1, y2, y3, y4, y5, y6, y7, y8, none, none, none, none, none, none]) (cutL (.int 0 :: ns.map .int) none (some 8)) [some (.d (.list (ns.map .int))), none, none, none, none, none, none, none, none, none, none, none, none, none, none] [] ⟨_, _, _, _, _, _, _, _, rfl⟩ (by
    rintro d hd ρ ν ⟨y1, y2, y3, y4, y5, y6, y7, y8, rfl⟩
    obtain ⟨c, rfl⟩ := allI d hd
    obtain ⟨z2, z3, z4, z5, z6, z7, z8, ν', e⟩ := cell_ok c (some (.d (.list (ns.map .int)))) y2 y3 y4 y5 y6 y7 y8 none none none none none none ν
    exact ⟨_, rfl, _, ν', e, _, _, _, _, _, _, _, _, rfl⟩)
  unfold cellB tb ob at e2
  rw [e2]
  dsimp only
  have tg : ∀ (ρ : Mi.Env), tTup [tName 9, tName 10] (.tuple [upD', lowD]) ρ = some ((ρ.set 9 (some (.d upD'))).set 10 (some (.d lowD))) := fun ρ => rfl
  rw [x_sSeq, x_sTgt]
  simp only [x_eTup, x_aCons, x_aNil, x_eInt, x_eStr, x_eUn, R.bind_ok, view_d, Option.bind_some, x_negI, Option.map_some, ofO_some, asDs_cons, asDs_nil, R.bindS_ok]
  rw [show PyData.tuple [.tuple [.int 0, .int 9, .str "add", .int 1], .tuple [.int (-9), .int (-1), .str "set", .int 4]] = .tuple [upD', lowD] from rfl]
  simp only [tg, List.set_cons_succ, List.set_cons_zero]
  rw [x_sSeq, x_sAsg]
  simp only [x_eLstM, x_eTup, x_aCons, x_aNil, x_eInt, x_eStr, x_eNon, x_eVar, List.getElem?_cons_zero, List.getElem?_cons_succ, R.bind_ok, asDs_cons, asDs_nil, Option.map_some, ofO_some, R.bindS_ok, List.set_cons_succ, List.set_cons_zero]
  rw [show [PyData.tuple [upD'], .tuple [lowD, upD'], .tuple [upD', lowD], .tuple [upD', upD'], .tuple [.tuple [.none, .none, .str "set", .int 0]]] = someA from rfl]
  have m1 := ml_last μ2 someA
  have s1 := set_last μ2 (some (.lst someA)) (some (.lst someB))
  have m2 := ml_last μ2 someB
  rw [x_sSeq, x_sDrop]
  simp only [x_eApp, x_eVar, List.getElem?_cons_zero, List.getElem?_cons_succ, R.bind_ok, m1, x_eTup, x_aCons, x_aNil, x_eNon, x_eInt, x_eStr, x_eUn, view_d, Option.bind_some, x_negI, Option.map_some, ofO_some, asDs_cons, asDs_nil]
  rw [if_pos (by decide)]
  rw [show someA ++ [PyData.tuple [.tuple [.none, .int 5, .str "add", .int 1], .tuple [.int 6, .none, .str "add", .int (-1)]]] = someB from rfl, s1, R.bindS_ok]
  dsimp only
  have t5 : dMul (.tuple [upD']) (.int 5) = some (.tuple [upD', upD', upD', upD', upD']) := rfl
  rw [x_sSeq, x_sAsg]
  simp only [x_eCatM, x_eLst, x_eTup, x_eOp, x_aCons, x_aNil, x_eInt, x_eStr, x_eNon, x_eVar, List.getElem?_cons_zero, List.getElem?_cons_succ, R.bind_ok, asDs_cons, asDs_nil, Option.map_some, ofO_some, view_d, Option.bind_some, t5, x_view_m, m2]
  rw [show [PyData.tuple [.tuple [.int 9, .int 0, .str "add", .int 1]], .tuple [.tuple [.int 0, .int 9, .str "add", .int 0]], .tuple [.tuple [.int 0, .none, .str "set", .int 1], .tuple [.int 5, .int 6, .str "set", .int 1]], .tuple [], .tuple [upD', upD', upD', upD', upD']] = someC from rfl]
  rw [if_pos (by decide), R.bindS_ok]
  simp only [List.set_cons_succ, List.set_cons_zero]
  generalize hμ3 : μ2 ++ [some (Cell.lst someB)] = μ3
  have m3 := ml_last μ3 (someB ++ someC)
  have s3 := set_last μ3 (some (.lst (someB ++ someC))) (some (.lst someE))
  have m4 := ml_last μ3 someE
  rw [x_sSeq, x_sDrop]
  simp only [x_eApp, x_eVar, List.getElem?_cons_zero, List.getElem?_cons_succ, R.bind_ok, m3, x_eTup, x_aCons, x_aNil, x_eInt, x_eStr, asDs_cons, asDs_nil, Option.map_some, ofO_some]
  rw [if_pos (by decide)]
  rw [show someB ++ someC ++ [PyData.tuple [upD', .tuple [.int 9, .int 12, .str "add", .int 1]]] = someE from rfl, s3, R.bindS_ok]
  dsimp only
  generalize hν : μ3 ++ [some (Cell.lst someE)] = ν at m4
  have lc1 : ∀ ρ : Mi.Env, ρ.length = 15 → ∀ μ, lcL (tName 13) eYes (eCall g_is_change (aCons (eVar 13) aNil)) ρ someE [] μ = .ok (.d (.list (someE.map fun d => .bool (fitsCh d)))) μ := fun ρ hρ μ => by
    rw [lc_map (fun d => .bool (fitsCh d)) someE [] fun d hd => ⟨ρ.set 13 (some (.d d)), rfl, rfl, ?_⟩]
    · rfl
    · simp [hρ, is_change_spec ((someE_sh d hd).shaped (by decide))]
  have lc2 : ∀ ρ : Mi.Env, ρ.length = 15 → ρ[9]? = some (some (.d upD')) → ∀ μ, lcL (tName 14) eYes (eCall g_is_statement (aCons (eTup (aCons (eTup (aCons (eVar 9) (aCons (eTup (aCons (eInt 10) (aCons (eInt 19) (aCons (eStr "add") (aCons (eUn dNeg (eInt 1)) aNil))))) aNil))) (aCons (eVar 14) aNil))) aNil)) ρ walksL [] μ = .ok (.d (.list (walksL.map fun d => .bool (fitsSt (withW d))))) μ := fun ρ hρ h9 μ => by
    rw [lc_map (fun d => .bool (fitsSt (withW d))) walksL [] fun d hd => ⟨ρ.set 14 (some (.d d)), rfl, rfl, ?_⟩]
    · rfl
    · have e := is_statement_spec ((walks_sh d hd).shaped (by decide)) μ
      have h9' : (ρ.set 14 (some (.d d)))[9]? = some (some (.d upD')) := by rw [List.getElem?_set_ne (by decide)]; exact h9
      have h14 : (ρ.set 14 (some (.d d)))[14]? = some (some (.d d)) := by rw [List.getElem?_set_self (by omega)]
      simp only [x_eCall, x_eTup, x_aCons, x_aNil, x_eVar, x_eInt, x_eStr, x_eUn, h9', h14, R.bind_ok, view_d, Option.bind_some, x_negI, Option.map_some, ofO_some, asDs_cons, asDs_nil]
      exact e
  have lc3 : ∀ ρ : Mi.Env, ρ.length = 15 → ∀ μ, lcL (tName 13) (eNot (eCall g__law_judged (aCons (eVar 13) aNil))) (eVar 13) ρ someE [] μ = .ok (.d (.list [])) μ := fun ρ hρ μ => by
    rw [lc_filter (fun _ => false) id someE [] fun d hd => ?_]
    · simp
    · exact ⟨_, rfl, by simp [hρ, judged_spec (someE_sh d hd) μ], fun e => by cases e⟩
  have b6 : dMul (.list [.bool false]) (.int 6) = some (.list [.bool false, .bool false, .bool false, .bool false, .bool false, .bool false]) := rfl
  have b4 : dMul (.list [.bool false]) (.int 4) = some (.list [.bool false, .bool false, .bool false, .bool false]) := rfl
  have ad0 : ∀ a b : List D, a.length + b.length ≤ 1000 → dAdd (.list a) (.list b) = some (.list (a ++ b)) := fun a b h => if_pos (by unfold LIM; omega)
  have n1 : dNe (.list (someE.map fun d => .bool (fitsCh d))) (.list ([.bool true, .bool true, .bool false, .bool false, .bool true, .bool true] ++ [.bool false, .bool false, .bool false, .bool false, .bool false, .bool false])) = some (.bool false) := by kernel_rfl
  have n2 : dNe (.list (walksL.map fun d => .bool (fitsSt (withW d)))) (.list ([.bool true, .bool false, .bool true] ++ [.bool false, .bool false, .bool false, .bool false])) = some (.bool false) := by kernel_rfl
  have q0 : dEq (.list []) (.list []) = some (.bool true) := rfl
  have i1 : dIx (.list someE) (.int 1) = some (.tuple [lowD, upD']) := rfl
  rw [x_sSeq, x_sSeq, x_sFrz]
  simp only [List.getElem?_cons_zero, List.getElem?_cons_succ, m4, List.set_cons_succ, List.set_cons_zero]
  generalize ν.set μ3.length none = ν2
  rw [x_sIf, x_eOp, x_eLc, x_iSeq]
  simp only [x_eVar, List.getElem?_cons_zero, List.getElem?_cons_succ, R.bind_ok, items, ofO_some]
  rw [lc1 _ (by simp [wipeE])]
  simp only [x_eOp, x_eLst, x_aCons, x_aNil, x_eBl, x_eInt, R.bind_ok, asDs_cons, asDs_nil, Option.map_some, ofO_some, view_d, Option.bind_some, b6]
  rw [ad0 _ _ (by simp)]
  simp only [Option.map_some, ofO_some, R.bind_ok, view_d, Option.bind_some, n1, RS.test_ok, Bool.false_eq_true, if_false, x_sNil]
  rw [x_sSeq, x_sAsg]
  simp only [x_eLst, x_eTup, x_aCons, x_aNil, x_eStr, x_eInt, R.bind_ok, asDs_cons, asDs_nil, Option.map_some, ofO_some, R.bindS_ok, List.set_cons_succ, List.set_cons_zero]
  rw [show [PyData.tuple [.str "up", .int 0, .int 0], .tuple [.str "down", .int 1, .int 0], .tuple [.str "first"], .tuple [.str "place"], .tuple [.str "up"], .tuple [.str "first", .int 0, .int 0], .tuple [.str "left", .int 0, .int 0]] = walksL from rfl]
  rw [x_sSeq, x_sIf, x_eOp, x_eLc, x_iSeq]
  simp only [x_eVar, List.getElem?_cons_zero, List.getElem?_cons_succ, R.bind_ok, items, ofO_some]
  rw [lc2 _ (by simp [wipeE]) (by simp [wipeE])]
  simp only [x_eOp, x_eLst, x_aCons, x_aNil, x_eBl, x_eInt, R.bind_ok, asDs_cons, asDs_nil, Option.map_some, ofO_some, view_d, Option.bind_some, b4]
  rw [ad0 _ _ (by simp)]
  simp only [Option.map_some, ofO_some, R.bind_ok, view_d, Option.bind_some, n2, RS.test_ok, Bool.false_eq_true, if_false, x_sNil]
  have fs : g_is_statement [.d (.tuple [.tuple [lowD, upD'], .tuple [.str "place"]])] ν2 = .ok (.d (.bool true)) ν2 := by
    rw [is_statement_spec (by kernel_rfl)]
    rw [show fitsSt (.tuple [.tuple [lowD, upD'], .tuple [.str "place"]]) = true by kernel_rfl]
  rw [x_sRet, x_eAnd, x_eOp, x_eLc, x_iSeq]
  simp only [x_eVar, List.getElem?_cons_zero, List.getElem?_cons_succ, R.bind_ok, items, ofO_some]
  rw [lc3 _ (by simp [wipeE])]
  simp only [x_eLst, x_aNil, R.bind_ok, asDs_nil, Option.map_some, ofO_some, view_d, Option.bind_some, q0, R.test_ok, if_true, x_eCall, x_aCons, x_eTup, x_eOp, x_eInt, x_eStr, x_eVar, List.getElem?_cons_zero, List.getElem?_cons_succ, i1, asDs_cons, fs, R.bindS_ok]
  simp [fin]
end Pure

set_option linter.all false
set_option Elab.async false
set_option maxRecDepth 100000
set_option maxHeartbeats 0
open PySem PySem.W PySem.Calls PyProof.Rows
theorem PySem.Challenge.cw_metagain_k01_changes_known_holds : PySem.Challenge.rw_metagain_k01_changes_known.Holds := by
  w_on; o_law
  refine HandSHeadRun.head_any (r := OpenLaw.row PySem.Challenge.rw_metagain_k01_changes_known) (q := view (OpenLaw.row PySem.Challenge.rw_metagain_k01_changes_known).prog [68]) (H := Hd.hk) (ob := Hd.ob) (M := 9000) (loose := Hd.loose) (d := HandSHeadRun.topDef (OpenLaw.row PySem.Challenge.rw_metagain_k01_changes_known).prog 68) (kwd := []) Hd.ob_eq
    (by kernel_rfl) (fun s => by kernel_rfl) Hd.run (by kernel_rfl) (by kernel_rfl) (by kernel_rfl) (by rfl) (by first | assumption | decide +kernel) (by decide +kernel) ⟨rfl, rfl, rfl, rfl, rfl, by decide +kernel⟩ ?hw ?hc
  case hw => w_witness2
  case hc =>
    refine LamX.walk_ofTsE (l := PySem.Challenge.rw_metagain_k01_changes_known) (n := 63) (k := 123) (x := "script") (CX := fun w => L2N.CX PySem.Challenge.rw_metagain_k01_changes_known.prog w) rfl (by decide) (by kernel_rfl) ⟨rfl, by decide, by decide⟩ ?F (fun w H s e s' z => by
      obtain ⟨_, _, _, _, _, _, _, _, _, _, _, _, z⟩ := z
      exact z)
    intro w mg fa h Y G hmg0
    obtain ⟨K, KX, c⟩ := Y
    have hmg : mg ("law" : PySem.Str) = some (.ref fa) := by
      have e : (HandSHeadRun.topDef (OpenLaw.row PySem.Challenge.rw_metagain_k01_changes_known).prog 68).name = ("law" : PySem.Str) := by kernel_rfl
      rw [← e]
      exact hmg0
    exact ⟨K, KX, Hd.at_law KX G c hmg Pure.law_true⟩
