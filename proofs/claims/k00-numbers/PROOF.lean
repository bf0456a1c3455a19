import PyProof.Rows.All
import PySem.Challenge.RW_polychains_k00_numbers
import PyProof.P3Statements
import Wide.All
import OpenK.AllK
import Wide.FinOn
import HandS.ForMost
import HandS.ForExc
import HandS.Zip
import HandS.Deep
import HandS.IsInst
import HandS.TupAny
import HandS.TupMul
import HandS.HeadHook2
import HandS.Wide
import HandS.CallSlots
import KE.GoesMore
import KE.KSortTupG
import HandS.SortRule
import HandS.Style
import HandS.ExcInit
import HandS.ExcField
import HandS.ExcIs
import HandS.TryMany
import KE.KExcSuper
import KE.KExcIs
import HandS.Head0
import HandS.Head1
import HandS.Head2
import HandS.HeadEnd
import HandS.HeadHook1
set_option Elab.async false
set_option linter.all false
set_option maxRecDepth 100000
set_option autoImplicit false
set_option maxHeartbeats 8000000
/-! DLA: values as data, environments, the combinators that readings are made of. Plain Lean. -/
namespace DL
open PySem
noncomputable section

/-- a value as data: lists of this kind never change -/
inductive D where
  | non
  | bl (b : Bool)
  | int (i : Int)
  | str (x : Str)
  | tup (xs : List D)
  | lst (xs : List D)
  | obj (c : Str) (ks : List Str) (fs : List D)
  | scr (ns : List Int)
  deriving Inhabited

/-- a slot of a frame: nothing known, a value, a list of the frame's own that may change -/
inductive Slot where
  | no
  | v (d : D)
  | o (xs : List D)
  deriving Inhabited
abbrev Env := List Slot

/-- an exception: its class by name, its fields -/
structure Exn where
  c : Str
  ks : List Str := []
  fs : List D := []

inductive Res (α : Type) where
  | ok (a : α) (ρ : Env)
  | exc (x : Exn) (ρ : Env)
  | bad
def Res.bind {α β : Type} (r : Res α) (k : α → Env → Res β) : Res β := match r with
  | .ok a ρ => k a ρ
  | .exc x ρ => .exc x ρ
  | .bad => .bad
theorem Res.bind_ok {α β : Type} (a : α) (ρ : Env) (k : α → Env → Res β) : (Res.ok a ρ).bind k = k a ρ := rfl
theorem Res.bind_exc {α β : Type} (x : Exn) (ρ : Env) (k : α → Env → Res β) : (Res.exc x ρ : Res α).bind k = .exc x ρ := rfl
theorem Res.bind_bad {α β : Type} (k : α → Env → Res β) : (Res.bad : Res α).bind k = .bad := rfl
theorem Res.bind_assoc {α β γ : Type} (r : Res α) (k : α → Env → Res β) (l : β → Env → Res γ) : (r.bind k).bind l = r.bind fun a ρ => (k a ρ).bind l := by cases r <;> rfl

/-- the end of a statement -/
inductive Fl where
  | nx | bk | ct
  | rt (d : D)
  | ro (xs : List D)
abbrev RE := Env → Res D
abbrev RM := Env → Res (List D)
abbrev RT := Env → Res Bool
abbrev RS := Env → Res Fl

/-- an answer, or none -/
def give {α : Type} (r : Option α) (ρ : Env) : Res α := match r with
  | some a => .ok a ρ
  | none => .bad

abbrev szL : Nat := 16777216
def two63 : Int := 9223372036854775808
def two62 : Int := 4611686018427387904
def two64 : Int := 18446744073709551616

/-! ### operators -/
def opAdd : D → D → Option D
  | .int a, .int b => some (.int (a + b))
  | .str a, .str b => if a.length + b.length ≤ szL then some (.str (a ++ b)) else none
  | .tup a, .tup b => if a.length + b.length ≤ szL then some (.tup (a ++ b)) else none
  | .lst a, .lst b => if a.length + b.length ≤ szL then some (.lst (a ++ b)) else none
  | _, _ => none
def opSub : D → D → Option D
  | .int a, .int b => some (.int (a - b))
  | _, _ => none
/-- bounds of whole numbers, shut: the kernel shall not reckon in them -/
theorem shutB (f : Int → Bool) : ∃ g : Int → Bool, g = f := ⟨f, rfl⟩
def smallF : Int → Bool := Classical.choose (shutB fun a => decide (-two64 < a) && decide (a < two64))
theorem smallF_eq (a : Int) : smallF a = (decide (-two64 < a) && decide (a < two64)) := congrFun (Classical.choose_spec (shutB _)) a
def ok63 : Int → Bool := Classical.choose (shutB fun a => decide (-two63 ≤ a) && decide (a < two63))
theorem ok63_eq (a : Int) : ok63 a = (decide (-two63 ≤ a) && decide (a < two63)) := congrFun (Classical.choose_spec (shutB _)) a
def ok62 : Int → Bool := Classical.choose (shutB fun a => decide (-two62 ≤ a) && decide (a < two62))
theorem ok62_eq (a : Int) : ok62 a = (decide (-two62 ≤ a) && decide (a < two62)) := congrFun (Classical.choose_spec (shutB _)) a
def okDv : Int → Bool := Classical.choose (shutB fun a => decide (0 < a) && decide (a < 79228162514264337593543950336))
theorem okDv_eq (a : Int) : okDv a = (decide (0 < a) && decide (a < 79228162514264337593543950336)) := congrFun (Classical.choose_spec (shutB _)) a
def repL (xs : List D) (k : Int) : Option (List D) := if xs.length * k.toNat ≤ szL ∧ ok63 k = true then some ((List.replicate k.toNat xs).flatten) else none
def opMul : D → D → Option D
  | .int a, .int b => if smallF a || smallF b then some (.int (a * b)) else none
  | .tup a, .int k => (repL a k).map .tup
  | .lst a, .int k => (repL a k).map .lst
  | _, _ => none
def opMod : D → D → Option D
  | .int a, .int b => if 0 < b then some (.int (a % b)) else none
  | _, _ => none
def opDiv : D → D → Option D
  | .int a, .int b => if okDv b = true then some (.int (a / b)) else none
  | _, _ => none
def opNeg : D → Option D
  | .int a => some (.int (-a))
  | _ => none
def opLt : D → D → Option D
  | .int a, .int b => some (.bl (decide (a < b)))
  | _, _ => none
def opLe : D → D → Option D
  | .int a, .int b => some (.bl (decide (a ≤ b)))
  | _, _ => none
def opGt : D → D → Option D
  | .int a, .int b => some (.bl (decide (b < a)))
  | _, _ => none
def opGe : D → D → Option D
  | .int a, .int b => some (.bl (decide (b ≤ a)))
  | _, _ => none

/- as data of the library; objects have none -/
mutual
def D.py : D → Option PyData
  | .non => some .none
  | .bl b => some (.bool b)
  | .int i => some (.int i)
  | .str x => if PyData.strOk x then some (.str x) else none
  | .tup xs => (D.pys xs).map .tuple
  | .lst xs => (D.pys xs).map .list
  | .obj _ _ _ => none
  | .scr _ => none
def D.pys : List D → Option (List PyData)
  | [] => some []
  | x :: xs => match D.py x, D.pys xs with
    | some y, some ys => some (y :: ys)
    | _, _ => none
end
mutual
def D.dep : D → Nat
  | .tup xs => D.deps xs + 1
  | .lst xs => D.deps xs + 1
  | _ => 0
def D.deps : List D → Nat
  | [] => 0
  | x :: xs => max (D.dep x) (D.deps xs)
end
/- Python's == -/
mutual
def D.eq : D → D → Bool
  | .non, .non => true
  | .bl a, .bl b => a == b
  | .bl a, .int j => (if a then 1 else 0) == j
  | .int i, .bl b => i == (if b then 1 else 0)
  | .int i, .int j => i == j
  | .str x, .str y => x == y
  | .tup xs, .tup ys => D.eqs xs ys
  | .lst xs, .lst ys => D.eqs xs ys
  | _, _ => false
def D.eqs : List D → List D → Bool
  | [], [] => true
  | x :: xs, y :: ys => D.eq x y && D.eqs xs ys
  | _, _ => false
end
/- data that == may be asked of: no objects, texts of real signs, at most 64 deep -/
mutual
def D.fin : D → Bool
  | .non => true
  | .bl _ => true
  | .int _ => true
  | .str x => PyData.strOk x
  | .tup xs => D.fins xs
  | .lst xs => D.fins xs
  | .obj _ _ _ => false
  | .scr _ => false
def D.fins : List D → Bool
  | [] => true
  | x :: xs => D.fin x && D.fins xs
end
def D.shp (d : D) : Bool := D.fin d && decide (D.dep d ≤ 64)
def opEq (a b : D) : Option D := if D.shp a && D.shp b then some (.bl (D.eq a b)) else none
def opNe (a b : D) : Option D := if D.shp a && D.shp b then some (.bl (!D.eq a b)) else none
def items? : D → Option (List D)
  | .tup xs => some xs
  | .lst xs => some xs
  | _ => none
def opIn (a b : D) : Option D := match items? b with
  | some ys => if D.shp a && D.shp b then some (.bl (ys.any fun z => D.eq z a)) else none
  | none => none
def opNotIn (a b : D) : Option D := match items? b with
  | some ys => if D.shp a && D.shp b then some (.bl (!ys.any fun z => D.eq z a)) else none
  | none => none

/-! ### items, slices -/
def ixOf (n : Nat) (i : Int) : Option Nat := if 0 ≤ i then (if i < n then some i.toNat else none) else if -(n : Int) ≤ i then some (i + n).toNat else none
def atL (xs : List D) (i : Int) : Option D := (ixOf xs.length i).bind fun j => xs[j]?
def opIx : D → D → Option D
  | .tup xs, .int i => atL xs i
  | .lst xs, .int i => atL xs i
  | .scr ns, .int i => atL (ns.map D.int) i
  | _, _ => none
def endOf (n d : Nat) : Option Int → Nat
  | none => d
  | some i => if i < 0 then (i + n).toNat else min i.toNat n
def cutL (xs : List D) (lo hi : Option Int) : List D := (xs.drop (endOf xs.length 0 lo)).take (endOf xs.length xs.length hi - endOf xs.length 0 lo)
def opCut (lo hi : Option Int) : D → Option D
  | .tup xs => some (.tup (cutL xs lo hi))
  | .lst xs => some (.lst (cutL xs lo hi))
  | .scr ns => some (.lst (cutL (ns.map D.int) lo hi))
  | _ => none

/-! ### readings of expressions -/
def eV (i : Nat) : RE := fun ρ => match ρ.getD i .no with
  | .v d => .ok d ρ
  | .o xs => .ok (.lst xs) (ρ.set i (.v (.lst xs)))
  | .no => .bad
def eC (d : D) : RE := fun ρ => .ok d ρ
def e1 (op : D → Option D) (a : RE) : RE := fun ρ => (a ρ).bind fun x ρ => give (op x) ρ
def e2 (op : D → D → Option D) (a b : RE) : RE := fun ρ => (a ρ).bind fun x ρ => (b ρ).bind fun y ρ => give (op x y) ρ
def asB : D → Option Bool
  | .bl b => some b
  | _ => none
def tE (a : RE) : RT := fun ρ => (a ρ).bind fun x ρ => give (asB x) ρ
def tNotD (t : RT) : RT := fun ρ => (t ρ).bind fun b ρ => .ok (!b) ρ
def tAndD (t u : RT) : RT := fun ρ => (t ρ).bind fun b ρ => if b then u ρ else .ok false ρ
def tOrD (t u : RT) : RT := fun ρ => (t ρ).bind fun b ρ => if b then .ok true ρ else u ρ
def eAnd (a b : RE) : RE := fun ρ => (a ρ).bind fun x ρ => match x with
  | .bl true => b ρ
  | .bl false => .ok (.bl false) ρ
  | _ => .bad
def eOr (a b : RE) : RE := fun ρ => (a ρ).bind fun x ρ => match x with
  | .bl true => .ok (.bl true) ρ
  | .bl false => b ρ
  | _ => .bad
def eNot (a : RE) : RE := e1 (fun x => (asB x).map fun b => .bl (!b)) a
def eIf (t : RT) (a b : RE) : RE := fun ρ => (t ρ).bind fun k ρ => if k then a ρ else b ρ
def D.isN : D → Bool
  | .non => true
  | _ => false
def eIsN (a : RE) : RE := fun ρ => (a ρ).bind fun x ρ => .ok (.bl x.isN) ρ
def eNotN (a : RE) : RE := fun ρ => (a ρ).bind fun x ρ => .ok (.bl (!x.isN)) ρ
/-- a OP b OP' c -/
def eChain (op op' : D → D → Option D) (a b c : RE) : RE := fun ρ => (a ρ).bind fun x ρ => (b ρ).bind fun y ρ => (give (op x y) ρ).bind fun k ρ => match k with
  | .bl true => (c ρ).bind fun z ρ => give (op' y z) ρ
  | .bl false => .ok (.bl false) ρ
  | _ => .bad
/-- several expressions, from the left -/
def eNil : RM := fun ρ => .ok [] ρ
def eCons (a : RE) (r : RM) : RM := fun ρ => (a ρ).bind fun x ρ => (r ρ).bind fun xs ρ => .ok (x :: xs) ρ
def eTup (r : RM) : RE := fun ρ => (r ρ).bind fun xs ρ => if xs.length ≤ szL then .ok (.tup xs) ρ else .bad
def mLst (r : RM) : RM := fun ρ => (r ρ).bind fun xs ρ => if xs.length ≤ szL then .ok xs ρ else .bad
/-- a new list, as a value that stands still -/
def eM (m : RM) : RE := fun ρ => (m ρ).bind fun xs ρ => .ok (.lst xs) ρ
/-- a built-in upon values -/
def eB (op : List D → Option D) (r : RM) : RE := fun ρ => (r ρ).bind fun xs ρ => give (op xs) ρ
def ePart (a : RE) : Env → Res (Option Int) := fun ρ => (a ρ).bind fun x ρ => match x with
  | .int i => .ok (some i) ρ
  | _ => .bad
def eNoPart : Env → Res (Option Int) := fun ρ => .ok none ρ
def eCut (a : RE) (lo hi : Env → Res (Option Int)) : RE := fun ρ => (a ρ).bind fun x ρ => (lo ρ).bind fun l ρ => (hi ρ).bind fun h ρ => give (opCut l h x) ρ

/-! ### own lists -/
def own? : Slot → Option (List D)
  | .o xs => some xs
  | _ => none
def oLen (i : Nat) : RE := fun ρ => give ((own? (ρ.getD i .no)).map fun xs => .int xs.length) ρ
def isO (ρ : Env) (i : Nat) : Bool := (own? (ρ.getD i .no)).isSome
def oIx (i : Nat) (b : RE) : RE := fun ρ => if isO ρ i then (b ρ).bind fun y ρ => give ((own? (ρ.getD i .no)).bind fun xs => match y with
  | .int k => atL xs k
  | _ => none) ρ else .bad
def popL (xs : List D) : Option (D × List D) := (xs[xs.length - 1]?).map fun y => (y, xs.dropLast)
def oPop (i : Nat) : RE := fun ρ => match (own? (ρ.getD i .no)).bind popL with
  | some (y, ys) => .ok y (ρ.set i (.o ys))
  | none => .bad
def popAtL (xs : List D) : D → Option (D × List D)
  | .int k => if ok63 k = true then (ixOf xs.length k).bind fun j => (xs[j]?).map fun y => (y, xs.eraseIdx j) else none
  | _ => none
def oPopAt (i : Nat) (b : RE) : RE := fun ρ => if isO ρ i then (b ρ).bind fun y ρ => match (own? (ρ.getD i .no)).bind fun xs => popAtL xs y with
  | some (z, ys) => .ok z (ρ.set i (.o ys))
  | none => .bad else .bad
def oTup (i : Nat) : RE := fun ρ => give ((own? (ρ.getD i .no)).map D.tup) ρ

/-! ### statements -/
def sNx : RS := fun ρ => .ok .nx ρ
def sSeq (s t : RS) : RS := fun ρ => (s ρ).bind fun f ρ => match f with
  | .nx => t ρ
  | _ => .ok f ρ
def sRet (a : RE) : RS := fun ρ => (a ρ).bind fun d ρ => .ok (.rt d) ρ
def sRetN : RS := fun ρ => .ok (.rt .non) ρ
def sRetO (m : RM) : RS := fun ρ => (m ρ).bind fun xs ρ => .ok (.ro xs) ρ
def sSet (i : Nat) (a : RE) : RS := fun ρ => (a ρ).bind fun d ρ => .ok .nx (ρ.set i (.v d))
def sSetO (i : Nat) (m : RM) : RS := fun ρ => (m ρ).bind fun xs ρ => .ok .nx (ρ.set i (.o xs))
def sDrop (a : RE) : RS := fun ρ => (a ρ).bind fun _ ρ => .ok .nx ρ
def sIf (t : RT) (a b : RS) : RS := fun ρ => (t ρ).bind fun k ρ => if k then a ρ else b ρ
def sBk : RS := fun ρ => .ok .bk ρ
def sCt : RS := fun ρ => .ok .ct ρ
def sNo : RS := fun _ => .bad
def appL (xs : List D) (d : D) : Option (List D) := if xs.length < szL then some (xs ++ [d]) else none
def extL (xs : List D) : D → Option (List D)
  | .lst ys => if xs.length + ys.length ≤ szL then some (xs ++ ys) else none
  | _ => none
def setL (xs : List D) (k d : D) : Option (List D) := match k with
  | .int k => (ixOf xs.length k).map fun j => xs.set j d
  | _ => none
/-- an own list changed by values: x.append(a), x.extend(a) -/
def oUp (op : List D → D → Option (List D)) (i : Nat) (a : RE) : RS := fun ρ => if isO ρ i then (a ρ).bind fun d ρ => match (own? (ρ.getD i .no)).bind fun xs => op xs d with
  | some ys => .ok .nx (ρ.set i (.o ys))
  | none => .bad else .bad
/-- x[b] = a: a first -/
def oSet (i : Nat) (b a : RE) : RS := fun ρ => (a ρ).bind fun d ρ => if isO ρ i then (b ρ).bind fun y ρ => match (own? (ρ.getD i .no)).bind fun xs => setL xs y d with
  | some ys => .ok .nx (ρ.set i (.o ys))
  | none => .bad else .bad

/-- targets: a name, several names -/
inductive Tg where
  | n (i : Nat)
  | t (is : List Nat)
def setAll : List Nat → List D → Env → Env
  | i :: is, x :: xs, ρ => setAll is xs (ρ.set i (.v x))
  | _, _, ρ => ρ
def Tg.sto : Tg → D → Env → Option Env
  | .n i, d, ρ => some (ρ.set i (.v d))
  | .t is, .tup xs, ρ => if xs.length = is.length then some (setAll is xs ρ) else none
  | .t is, .lst xs, ρ => if xs.length = is.length then some (setAll is xs ρ) else none
  | .t _, _, _ => none
def sAsg (g : Tg) (a : RE) : RS := fun ρ => (a ρ).bind fun d ρ => match g.sto d ρ with
  | some ρ => .ok .nx ρ
  | none => .bad
/-- x, y = a, b -/
def sPar (i j : Nat) (r : RM) : RS := fun ρ => (r ρ).bind fun vs ρ => match vs with
  | [v, w] => .ok .nx ((ρ.set i (.v v)).set j (.v w))
  | _ => .bad

/-! ### loops -/
/-- over items -/
def forF (g : Tg) (body : RS) : List D → Env → Res Fl
  | [], ρ => .ok .nx ρ
  | x :: xs, ρ => match g.sto x ρ with
    | none => .bad
    | some ρ => (body ρ).bind fun f ρ => match f with
      | .nx => forF g body xs ρ
      | .ct => forF g body xs ρ
      | .bk => .ok .nx ρ
      | .rt d => .ok (.rt d) ρ
      | .ro ys => .ok (.ro ys) ρ
def sFor (it : RM) (g : Tg) (body : RS) : RS := fun ρ => (it ρ).bind fun xs ρ => forF g body xs ρ
/-- what a for walks -/
def itE (a : RE) : RM := fun ρ => (a ρ).bind fun x ρ => give (items? x) ρ
def rangeL (lo : Int) (n : Nat) : List D := (List.range n).map fun i => .int (lo + (i : Nat))
def itR1 (a : RE) : RM := fun ρ => (a ρ).bind fun x ρ => match x with
  | .int j => if ok62 j then .ok (rangeL 0 j.toNat) ρ else .bad
  | _ => .bad
def itR2 (a b : RE) : RM := fun ρ => (a ρ).bind fun x ρ => (b ρ).bind fun y ρ => match x, y with
  | .int i, .int j => if ok62 i && ok62 j then .ok (rangeL i (j - i).toNat) ρ else .bad
  | _, _ => .bad
def zipD (xs ys : List D) : List D := (xs.zip ys).map fun p => .tup [p.1, p.2]
def itZ (a b : RE) : RM := fun ρ => (a ρ).bind fun x ρ => (b ρ).bind fun y ρ => match x, y with
  | .tup xs, .tup ys => .ok (zipD xs ys) ρ
  | .lst xs, .lst ys => .ok (zipD xs ys) ρ
  | .tup xs, .lst ys => .ok (zipD xs ys) ρ
  | .lst xs, .tup ys => .ok (zipD xs ys) ρ
  | _, _ => .bad

/-- a comprehension: own names' slots are wiped within and put back behind -/
def wipeE (ρ : Env) : List Nat → Env
  | [] => ρ
  | i :: is => (wipeE ρ is).set i .no
def backE (ρ0 ρ : Env) : List Nat → Env
  | [] => ρ
  | i :: is => (backE ρ0 ρ is).set i (ρ0.getD i .no)
/-- an error within a comprehension is not served -/
def noX {α : Type} : Res α → Res α
  | .exc _ _ => .bad
  | r => r
def lcF (own : List Nat) (g : Tg) (t : RT) (a : RE) : List D → List D → Env → Res (List D)
  | [], acc, ρ => .ok acc ρ
  | x :: xs, acc, ρ => match g.sto x (wipeE ρ own) with
    | none => .bad
    | some ρ => (noX (t ρ)).bind fun k ρ =>
      if k then (noX (a ρ)).bind fun y ρ => if acc.length < szL then lcF own g t a xs (acc ++ [y]) ρ else .bad
      else lcF own g t a xs acc ρ
def tTrue : RT := fun ρ => .ok true ρ
def mLc (it : RM) (own : List Nat) (g : Tg) (t : RT) (a : RE) : RM := fun ρ => (it ρ).bind fun xs ρ => (lcF own g t a xs [] (wipeE ρ own)).bind fun ys ρ' => .ok ys (backE ρ ρ' own)

/-- a while: n turns at most -/
def whF (t : RT) (body : RS) : Nat → Env → Res Fl
  | 0, _ => .bad
  | n + 1, ρ => (t ρ).bind fun k ρ => if k then (body ρ).bind fun f ρ => match f with
      | .nx => whF t body n ρ
      | .ct => whF t body n ρ
      | .bk => .ok .nx ρ
      | .rt d => .ok (.rt d) ρ
      | .ro ys => .ok (.ro ys) ρ
    else .ok .nx ρ
def Res.isBad {α : Type} : Res α → Bool
  | .bad => true
  | _ => false
open Classical in
noncomputable def sWh (t : RT) (body : RS) : RS := fun ρ => if h : ∃ n, (whF t body n ρ).isBad = false then whF t body h.choose ρ else .bad

/-! ### calls -/
/-- what a def hands back -/
inductive Ret where
  | v (d : D)
  | o (xs : List D)
abbrev Fn := Env → Res Ret
/-- an argument: a value, or an own list of the frame -/
inductive Ag where
  | e (a : RE)
  | o (i : Nat)
def argsF : List Ag → Env → Res (List D)
  | [], ρ => .ok [] ρ
  | .e a :: r, ρ => (a ρ).bind fun x ρ => (argsF r ρ).bind fun xs ρ => .ok (x :: xs) ρ
  | .o _ :: r, ρ => (argsF r ρ).bind fun xs ρ => .ok xs ρ
/-- the callee's slots -/
def slotsF : List Ag → List D → Env → Option Env
  | [], [], _ => some []
  | .e _ :: r, x :: xs, ρ => (slotsF r xs ρ).map fun s => .v x :: s
  | .o i :: r, xs, ρ => match ρ.getD i .no with
    | .o ys => (slotsF r xs ρ).map fun s => .o ys :: s
    | _ => none
  | _, _, _ => none
/-- behind the call: the own lists as the callee left them -/
def backF : List Ag → Env → Env → Option Env
  | [], _, ρ => some ρ
  | .e _ :: r, _ :: s, ρ => backF r s ρ
  | .o i :: r, .o ys :: s, ρ => backF r s (ρ.set i (.o ys))
  | _, _, _ => none
def callF (F : Fn) (as : List Ag) (ρ : Env) : Res Ret := (argsF as ρ).bind fun xs ρ => match slotsF as xs ρ with
  | some s => (match F s with
    | .ok r s' => (match backF as s' ρ with
      | some ρ' => .ok r ρ'
      | none => .bad)
    | .exc x s' => (match backF as s' ρ with
      | some ρ' => .exc x ρ'
      | none => .bad)
    | .bad => .bad)
  | none => .bad
def eCall (F : Fn) (as : List Ag) : RE := fun ρ => (callF F as ρ).bind fun r ρ => match r with
  | .v d => .ok d ρ
  | .o xs => .ok (.lst xs) ρ
def mCall (F : Fn) (as : List Ag) : RM := fun ρ => (callF F as ρ).bind fun r ρ => match r with
  | .v _ => .bad
  | .o xs => .ok xs ρ
/-- a def by its body: n names in all, the own parameters -/
def keepO : List Bool → Env → Env
  | [], _ => []
  | true :: r, s :: ρ => s :: keepO r ρ
  | false :: r, _ :: ρ => .no :: keepO r ρ
  | _ :: r, [] => .no :: keepO r []
def fnF (own : List Bool) (n : Nat) (body : RS) : Fn := fun as => match body (as ++ List.replicate (n - as.length) .no) with
  | .ok (.rt d) ρ => .ok (.v d) (keepO own ρ)
  | .ok (.ro xs) ρ => .ok (.o xs) (keepO own ρ)
  | .ok .nx ρ => .ok (.v .non) (keepO own ρ)
  | .ok _ _ => .bad
  | .exc x ρ => .exc x (keepO own ρ)
  | .bad => .bad

/-! ### built-ins upon values -/
def bTuple : List D → Option D
  | [.lst xs] => some (.tup xs)
  | [.tup xs] => some (.tup xs)
  | _ => none
def bLen : List D → Option D
  | [.lst xs] => some (.int xs.length)
  | [.tup xs] => some (.int xs.length)
  | [.scr ns] => some (.int ns.length)
  | [.str x] => if x.length ≤ szL then some (.int x.length) else none
  | _ => none
def bInt : List D → Option D
  | [.int i] => some (.int i)
  | [.bl b] => some (.int (if b then 1 else 0))
  | _ => none
def bAbs : List D → Option D
  | [.int i] => some (.int (if i < 0 then -i else i))
  | _ => none
def ints? : List D → Option (List Int)
  | [] => some []
  | .int i :: xs => (ints? xs).map fun r => i :: r
  | _ :: _ => none
def bools? : List D → Option (List Bool)
  | [] => some []
  | .bl b :: xs => (bools? xs).map fun r => b :: r
  | _ :: _ => none
def bSum : List D → Option D
  | [.lst xs] => (ints? xs).map fun r => .int r.sum
  | _ => none
def bAll : List D → Option D
  | [.lst xs] => (bools? xs).map fun r => .bl (r.all id)
  | _ => none
def bAny : List D → Option D
  | [.lst xs] => (bools? xs).map fun r => .bl (r.any id)
  | _ => none
def bList : List D → Option D
  | [.lst xs] => some (.lst xs)
  | [.tup xs] => some (.lst xs)
  | _ => none

/-! ### isinstance -/
def tyOf : D → Str
  | .non => "NoneType"
  | .bl _ => "bool"
  | .int _ => "int"
  | .str _ => "str"
  | .tup _ => "tuple"
  | .lst _ => "list"
  | .scr _ => "list"
  | .obj c _ _ => c
end
end DL
/-! DLB: what data mean in the abstract heap; readings over data; the rules of expressions. -/
namespace DL
noncomputable section
open PySem PySem.Spec PyProof.Rows L2
abbrev St := L2.St

/-! ### data in the heap -/
/-- a list that stands still -/
def FzL (H : Hp) (a : Addr) (vs : List V) : Prop := ∃ o, H a = some (.frz o (.lst vs))
theorem FzL.seq {K : PySem.W.Frag} {H : Hp} {a : Addr} {vs : List V} (h : FzL H a vs) : SqL K H a vs :=
  let ⟨o, h⟩ := h; .inl (.inr ⟨o, h⟩)
/-- the script: known to the object, or an object of the module -/
def Scr (K : PySem.W.Frag) (H : Hp) (a : Addr) (vs : List V) : Prop :=
  (∃ o, H a = some (.frz o (.lst vs))) ∨
    ∃ (o : Obj) (its : Array Value) (n : Nat), K.lookup a = some o ∧ o.cls = .type "list" ∧ o.dict = none ∧ o.data = .seq its n ∧ its.size ≤ sizeLine ∧ Vals vs its.toList
theorem Scr.seq {K : PySem.W.Frag} {H : Hp} {a : Addr} {vs : List V} (h : Scr K H a vs) : SqL K H a vs := by
  rcases h with ⟨o, h⟩ | h
  · exact .inl (.inr ⟨o, h⟩)
  · exact .inr h

mutual
inductive VR (K : PySem.W.Frag) (H : Hp) : D → V → Prop
  | non : VR K H .non .non
  | bl (b : Bool) : VR K H (.bl b) (.bl b)
  | int (i : Int) : VR K H (.int i) (.int i)
  | str (x : Str) : VR K H (.str x) (.str x)
  | tup {a : Addr} {ds : List D} {vs : List V} : SqT K H a vs → VRs K H ds vs → VR K H (.tup ds) (.ref a)
  | lst {a : Addr} {ds : List D} {vs : List V} : FzL H a vs → VRs K H ds vs → VR K H (.lst ds) (.ref a)
  | scr {a : Addr} {ns : List Int} : Scr K H a (ns.map V.int) → VR K H (.scr ns) (.ref a)
  | obj {a dx : Addr} {c : Str} {ks : List Str} {ds : List D} {gs : List (Str × V)} {vs : List V} : H a = some (.ins (He.ga K c) dx gs) → VRs K H ds vs → ks.length = ds.length →
      (∀ (i : Nat) (k : Str), ks[i]? = some k → gs.lookup k = vs[i]?) → VR K H (.obj c ks ds) (.ref a)
inductive VRs (K : PySem.W.Frag) (H : Hp) : List D → List V → Prop
  | nil : VRs K H [] []
  | cons {d : D} {v : V} {ds : List D} {vs : List V} : VR K H d v → VRs K H ds vs → VRs K H (d :: ds) (v :: vs)
end

/-- what never changes has stayed -/
structure Ext (H H' : Hp) : Prop where
  tup : ∀ a xs, H a = some (.tup xs) → H' a = some (.tup xs)
  frz : ∀ a o u, H a = some (.frz o u) → H' a = some (.frz o u)
  ins : ∀ a C dx fs, H a = some (.ins C dx fs) → H' a = some (.ins C dx fs)
theorem Ext.refl (H : Hp) : Ext H H := ⟨fun _ _ h => h, fun _ _ _ h => h, fun _ _ _ _ h => h⟩
theorem Ext.trans {H H1 H2 : Hp} (x : Ext H H1) (y : Ext H1 H2) : Ext H H2 :=
  ⟨fun a xs h => y.tup _ _ (x.tup _ _ h), fun a o u h => y.frz _ _ _ (x.frz _ _ _ h), fun a C dx fs h => y.ins _ _ _ _ (x.ins _ _ _ _ h)⟩
section
variable {K : PySem.W.Frag} {H H' : Hp}
theorem Ext.sqT (x : Ext H H') {a : Addr} {vs : List V} (h : SqT K H a vs) : SqT K H' a vs := by
  rcases h with (h | ⟨o, h⟩) | h
  · exact .inl (.inl (x.tup _ _ h))
  · exact .inl (.inr ⟨o, x.frz _ _ _ h⟩)
  · exact .inr h
theorem Ext.fzL (x : Ext H H') {a : Addr} {vs : List V} (h : FzL H a vs) : FzL H' a vs := let ⟨o, h⟩ := h; ⟨o, x.frz _ _ _ h⟩
theorem Ext.scr (x : Ext H H') {a : Addr} {vs : List V} (h : Scr K H a vs) : Scr K H' a vs := by
  rcases h with ⟨o, h⟩ | h
  · exact .inl ⟨o, x.frz _ _ _ h⟩
  · exact .inr h
mutual
theorem VR.ext (x : Ext H H') : ∀ {d : D} {v : V}, VR K H d v → VR K H' d v
  | _, _, .non => .non
  | _, _, .bl b => .bl b
  | _, _, .int i => .int i
  | _, _, .str z => .str z
  | _, _, .tup h r => .tup (x.sqT h) (VRs.ext x r)
  | _, _, .lst h r => .lst (x.fzL h) (VRs.ext x r)
  | _, _, .scr h => .scr (x.scr h)
  | _, _, .obj h r l q => .obj (x.ins _ _ _ _ h) (VRs.ext x r) l q
theorem VRs.ext (x : Ext H H') : ∀ {ds : List D} {vs : List V}, VRs K H ds vs → VRs K H' ds vs
  | _, _, .nil => .nil
  | _, _, .cons h r => .cons (VR.ext x h) (VRs.ext x r)
end
theorem VRs.length : ∀ {ds : List D} {vs : List V}, VRs K H ds vs → ds.length = vs.length
  | _, _, .nil => rfl
  | _, _, .cons _ r => congrArg Nat.succ (VRs.length r)
theorem VRs.get : ∀ {ds : List D} {vs : List V} {i : Nat} {d : D}, VRs K H ds vs → ds[i]? = some d → ∃ v, vs[i]? = some v ∧ VR K H d v
  | _, _, _, _, .nil, e => by simp at e
  | _, _, 0, _, .cons r _, e => by simp at e; subst e; exact ⟨_, rfl, r⟩
  | _, _, i + 1, _, .cons _ t, e => by
    obtain ⟨v, h1, h2⟩ := VRs.get (i := i) t (by simpa using e)
    exact ⟨v, by simpa using h1, h2⟩
theorem VRs.get' : ∀ {ds : List D} {vs : List V} {i : Nat} {v : V}, VRs K H ds vs → vs[i]? = some v → ∃ d, ds[i]? = some d ∧ VR K H d v
  | _, _, _, _, .nil, e => by simp at e
  | _, _, 0, _, .cons r _, e => by simp at e; subst e; exact ⟨_, rfl, r⟩
  | _, _, i + 1, _, .cons _ t, e => by
    obtain ⟨v, h1, h2⟩ := VRs.get' (i := i) t (by simpa using e)
    exact ⟨v, by simpa using h1, h2⟩
theorem VRs.append : ∀ {ds es : List D} {vs ws : List V}, VRs K H ds vs → VRs K H es ws → VRs K H (ds ++ es) (vs ++ ws)
  | _, _, _, _, .nil, s => s
  | _, _, _, _, .cons r t, s => .cons r (VRs.append t s)
theorem VRs.take : ∀ {ds : List D} {vs : List V} (n : Nat), VRs K H ds vs → VRs K H (ds.take n) (vs.take n)
  | _, _, 0, _ => .nil
  | _, _, _ + 1, .nil => .nil
  | _, _, n + 1, .cons r t => .cons r (VRs.take n t)
theorem VRs.drop : ∀ {ds : List D} {vs : List V} (n : Nat), VRs K H ds vs → VRs K H (ds.drop n) (vs.drop n)
  | _, _, 0, r => r
  | _, _, _ + 1, .nil => .nil
  | _, _, n + 1, .cons _ t => VRs.drop n t
theorem VRs.set {d : D} {v : V} (r : VR K H d v) : ∀ {ds : List D} {vs : List V} (i : Nat), VRs K H ds vs → VRs K H (ds.set i d) (vs.set i v)
  | _, _, _, .nil => .nil
  | _, _, 0, .cons _ t => .cons r t
  | _, _, i + 1, .cons q t => .cons q (VRs.set r i t)
theorem VRs.erase : ∀ {ds : List D} {vs : List V} (i : Nat), VRs K H ds vs → VRs K H (ds.eraseIdx i) (vs.eraseIdx i)
  | _, _, _, .nil => .nil
  | _, _, 0, .cons _ t => t
  | _, _, i + 1, .cons q t => .cons q (VRs.erase i t)
theorem VRs.dropLast {ds : List D} {vs : List V} (r : VRs K H ds vs) : VRs K H ds.dropLast vs.dropLast := by
  rw [List.dropLast_eq_take, List.dropLast_eq_take, r.length]
  exact r.take _
theorem VRs.rep {ds : List D} {vs : List V} (r : VRs K H ds vs) : ∀ n : Nat, VRs K H (List.replicate n ds).flatten (List.replicate n vs).flatten
  | 0 => .nil
  | n + 1 => by
    rw [List.replicate_succ, List.replicate_succ, List.flatten_cons, List.flatten_cons]
    exact r.append (VRs.rep r n)
theorem VRs.nil_iff {ds : List D} {vs : List V} (r : VRs K H ds vs) : ds = [] ↔ vs = [] := by
  cases r <;> simp
theorem VR.inv_int {i : Int} {v : V} (h : VR K H (.int i) v) : v = .int i := by cases h; rfl
theorem VR.inv_bl {b : Bool} {v : V} (h : VR K H (.bl b) v) : v = .bl b := by cases h; rfl
theorem VR.inv_non {v : V} (h : VR K H .non v) : v = .non := by cases h; rfl
theorem VR.inv_str {x : Str} {v : V} (h : VR K H (.str x) v) : v = .str x := by cases h; rfl
theorem VR.inv_tup {ds : List D} {v : V} (h : VR K H (.tup ds) v) : ∃ a vs, v = .ref a ∧ SqT K H a vs ∧ VRs K H ds vs := by
  cases h with
  | tup a b => exact ⟨_, _, rfl, a, b⟩
theorem VR.inv_lst {ds : List D} {v : V} (h : VR K H (.lst ds) v) : ∃ a vs, v = .ref a ∧ FzL H a vs ∧ VRs K H ds vs := by
  cases h with
  | lst a b => exact ⟨_, _, rfl, a, b⟩
end

/-! ### frames -/
def Own (ρ : Env) (σ : St) (a : Addr) : Prop := ∃ (i : Nat) (xs : List D), ρ[i]? = some (.o xs) ∧ σ[i]? = some (some (.ref a))
structure EnvR (K : PySem.W.Frag) (ρ : Env) (σ : St) (H : Hp) : Prop where
  len : ρ.length = σ.length
  val : ∀ (i : Nat) (d : D), ρ[i]? = some (.v d) → ∃ v, σ[i]? = some (some v) ∧ VR K H d v
  own : ∀ (i : Nat) (xs : List D), ρ[i]? = some (.o xs) → ∃ a vs, σ[i]? = some (some (.ref a)) ∧ H a = some (.lst vs) ∧ VRs K H xs vs
  dist : ∀ (i j : Nat) (xs ys : List D) (a : Addr), ρ[i]? = some (.o xs) → ρ[j]? = some (.o ys) → σ[i]? = some (some (.ref a)) → σ[j]? = some (some (.ref a)) → i = j
theorem EnvR.ownLst {K : PySem.W.Frag} {ρ : Env} {σ : St} {H : Hp} (e : EnvR K ρ σ H) {a : Addr} (h : Own ρ σ a) : ∃ vs, H a = some (.lst vs) := by
  obtain ⟨i, xs, h1, h2⟩ := h
  obtain ⟨b, vs, h3, h4, _⟩ := e.own i xs h1
  rw [h2] at h3
  cases h3
  exact ⟨vs, h4⟩
/-- what a step of the frame has done; pl: slots that it may not bind anew -/
structure Step (pl : List Nat) (ρ : Env) (σ : St) (H : Hp) (ρ' : Env) (σ' : St) (H' : Hp) : Prop where
  keep : ∀ a o, H a = some o → ¬ Own ρ σ a → H' a = some o
  trk : ∀ a, H a ≠ none → H' a ≠ none
  own : ∀ a, Own ρ' σ' a → Own ρ σ a ∨ H a = none
  prot : ∀ i ∈ pl, σ'[i]? = σ[i]?
section
variable {K : PySem.W.Frag} {pl : List Nat} {ρ ρ1 ρ2 : Env} {σ σ1 σ2 : St} {H H1 H2 : Hp}
theorem Step.refl : Step pl ρ σ H ρ σ H := ⟨fun _ _ h _ => h, fun _ h => h, fun _ h => .inl h, fun _ _ => rfl⟩
theorem Step.trans (x : Step pl ρ σ H ρ1 σ1 H1) (y : Step pl ρ1 σ1 H1 ρ2 σ2 H2) : Step pl ρ σ H ρ2 σ2 H2 where
  keep := fun a o h n => y.keep a o (x.keep a o h n) fun z => by
    rcases x.own a z with z | z
    · exact n z
    · rw [z] at h; cases h
  trk := fun a h => y.trk a (x.trk a h)
  own := fun a h => by
    rcases y.own a h with z | z
    · exact x.own a z
    · refine .inr ?_
      cases q : H a with
      | none => rfl
      | some o => exact absurd z (x.trk a (by rw [q]; simp))
  prot := fun i hi => (y.prot i hi).trans (x.prot i hi)
theorem Step.ext (x : Step pl ρ σ H ρ1 σ1 H1) (e : EnvR K ρ σ H) : Ext H H1 := by
  have no : ∀ {a o}, H a = some o → (∀ vs, o ≠ .lst vs) → H1 a = some o := fun {a o} h n => x.keep a o h fun z => by
    obtain ⟨vs, q⟩ := e.ownLst z
    rw [h] at q
    exact n vs (Option.some.inj q)
  exact ⟨fun a xs h => no h fun vs z => (by cases z), fun a o u h => no h fun vs z => (by cases z), fun a C dx fs h => no h fun vs z => (by cases z)⟩
/-- the heap alone has grown or changed where no own list stands -/
theorem EnvR.heap (e : EnvR K ρ σ H) (k : ∀ a o, H a = some o → H1 a = some o) : EnvR K ρ σ H1 := by
  have x : Ext H H1 := ⟨fun a xs h => k _ _ h, fun a o u h => k _ _ h, fun a C dx fs h => k _ _ h⟩
  exact ⟨e.len, fun i d h => let ⟨v, h1, h2⟩ := e.val i d h; ⟨v, h1, h2.ext x⟩, fun i xs h => let ⟨a, vs, h1, h2, h3⟩ := e.own i xs h; ⟨a, vs, h1, k _ _ h2, h3.ext x⟩, e.dist⟩
theorem Step.heap (k : ∀ a o, H a = some o → H1 a = some o) : Step pl ρ σ H ρ σ H1 :=
  ⟨fun a o h _ => k a o h, fun a h => by
    cases q : H a with
    | none => exact absurd q h
    | some o => rw [k a o q]; simp, fun _ h => .inl h, fun _ _ => rfl⟩
theorem upd_keep {a : Addr} {o : HO} (h : H a = none) : ∀ b u, H b = some u → upd H a o b = some u := fun b u e => by
  rw [upd_ne (ne_of_none e h)]
  exact e
theorem slot_get {i : Nat} {s : DL.Slot} (h : ρ.getD i .no = s) (n : s ≠ .no) : ρ[i]? = some s := by
  rw [List.getD_eq_getElem?_getD] at h
  cases q : ρ[i]? with
  | none => rw [q] at h; exact absurd h.symm n
  | some t => rw [q] at h; exact congrArg some h
theorem own_set_other {i : Nat} {d : D} {a : Addr} (h : Own (ρ.set i (.v d)) σ a) : Own ρ σ a ∧ ∀ xs, ρ[i]? = some (.o xs) → True := by
  obtain ⟨j, xs, h1, h2⟩ := h
  refine ⟨⟨j, xs, ?_, h2⟩, fun _ _ => trivial⟩
  by_cases hj : i = j
  · subst hj
    by_cases hl : i < ρ.length
    · rw [List.getElem?_set_self hl] at h1; cases h1
    · rw [List.getElem?_eq_none (by simpa using hl)] at h1; cases h1
  · rwa [List.getElem?_set_ne hj] at h1
/-- an own list becomes one that stands still -/
theorem EnvR.freeze {i : Nat} {xs : List D} {a : Addr} {vs : List V} {o : Obj} (e : EnvR K ρ σ H) (h : ρ[i]? = some (.o xs)) (hs : σ[i]? = some (some (.ref a))) (ha : H a = some (.lst vs)) (r : VRs K H xs vs) :
    EnvR K (ρ.set i (.v (.lst xs))) σ (upd H a (.frz o (.lst vs))) ∧ Step pl ρ σ H (ρ.set i (.v (.lst xs))) σ (upd H a (.frz o (.lst vs))) ∧ Ext H (upd H a (.frz o (.lst vs))) := by
  have hil : i < ρ.length := (List.getElem?_eq_some_iff.mp h).1
  have no : ∀ {b u}, H b = some u → (∀ vs, u ≠ .lst vs) → upd H a (.frz o (.lst vs)) b = some u := fun {b u} q n => by
    rw [upd_ne (fun z => by subst z; rw [ha] at q; exact n _ (Option.some.inj q).symm)]; exact q
  have x : Ext H (upd H a (.frz o (.lst vs))) := ⟨fun b xs h => no h fun vs z => (by cases z), fun b o u h => no h fun vs z => (by cases z), fun b C dx fs h => no h fun vs z => (by cases z)⟩
  refine ⟨⟨by rw [List.length_set]; exact e.len, fun j d hj => ?_, fun j ys hj => ?_, fun j k ys zs b h1 h2 h3 h4 => ?_⟩, ⟨fun b u q n => ?_, fun b q => ?_, fun b q => .inl (own_set_other q).1, fun _ _ => rfl⟩, x⟩
  · by_cases hij : i = j
    · subst hij
      rw [List.getElem?_set_self hil] at hj
      cases hj
      exact ⟨.ref a, hs, .lst ⟨o, upd_same⟩ (r.ext x)⟩
    · rw [List.getElem?_set_ne hij] at hj
      obtain ⟨v, h1, h2⟩ := e.val j d hj
      exact ⟨v, h1, h2.ext x⟩
  · by_cases hij : i = j
    · subst hij
      rw [List.getElem?_set_self hil] at hj; cases hj
    · rw [List.getElem?_set_ne hij] at hj
      obtain ⟨b, ws, h1, h2, h3⟩ := e.own j ys hj
      have hba : b ≠ a := fun z => by
        subst z
        exact hij (e.dist i j xs ys b h hj hs h1)
      exact ⟨b, ws, h1, by rw [upd_ne hba]; exact h2, h3.ext x⟩
  · have g : ∀ {j : Nat} {ys : List D}, (ρ.set i (.v (.lst xs)))[j]? = some (.o ys) → ρ[j]? = some (.o ys) := fun {j ys} q => by
      by_cases hij : i = j
      · subst hij
        rw [List.getElem?_set_self hil] at q; cases q
      · rwa [List.getElem?_set_ne hij] at q
    exact e.dist j k ys zs b (g h1) (g h2) h3 h4
  · have : b ≠ a := fun z => by
      subst z
      exact n ⟨i, xs, h, hs⟩
    rw [upd_ne this]; exact q
  · by_cases hb : b = a
    · subst hb; rw [upd_same]; simp
    · rw [upd_ne hb]; exact q
/-- an own list changes -/
theorem EnvR.write {i : Nat} {xs ys : List D} {a : Addr} {vs ws : List V} (e : EnvR K ρ σ H) (h : ρ[i]? = some (.o xs)) (hs : σ[i]? = some (some (.ref a))) (ha : H a = some (.lst vs)) (r : VRs K H ys ws) :
    EnvR K (ρ.set i (.o ys)) σ (upd H a (.lst ws)) ∧ Step pl ρ σ H (ρ.set i (.o ys)) σ (upd H a (.lst ws)) ∧ Ext H (upd H a (.lst ws)) := by
  have hil : i < ρ.length := (List.getElem?_eq_some_iff.mp h).1
  have no : ∀ {b u}, H b = some u → (∀ vs, u ≠ .lst vs) → upd H a (.lst ws) b = some u := fun {b u} q n => by
    rw [upd_ne (fun z => by subst z; rw [ha] at q; exact n _ (Option.some.inj q).symm)]; exact q
  have x : Ext H (upd H a (.lst ws)) := ⟨fun b xs h => no h fun vs z => (by cases z), fun b o u h => no h fun vs z => (by cases z), fun b C dx fs h => no h fun vs z => (by cases z)⟩
  have g : ∀ {j : Nat} {zs : List D}, (ρ.set i (.o ys))[j]? = some (.o zs) → ∃ zs' : List D, ρ[j]? = some (.o zs') := fun {j zs} q => by
    by_cases hij : i = j
    · subst hij; exact ⟨xs, h⟩
    · rw [List.getElem?_set_ne hij] at q; exact ⟨zs, q⟩
  refine ⟨⟨by rw [List.length_set]; exact e.len, fun j d hj => ?_, fun j zs hj => ?_, fun j k zs1 zs2 b h1 h2 h3 h4 => ?_⟩, ⟨fun b u q n => ?_, fun b q => ?_, fun b q => .inl ?_, fun _ _ => rfl⟩, x⟩
  · by_cases hij : i = j
    · subst hij
      rw [List.getElem?_set_self hil] at hj; cases hj
    · rw [List.getElem?_set_ne hij] at hj
      obtain ⟨v, h1, h2⟩ := e.val j d hj
      exact ⟨v, h1, h2.ext x⟩
  · by_cases hij : i = j
    · subst hij
      rw [List.getElem?_set_self hil] at hj
      cases hj
      exact ⟨a, ws, hs, upd_same, r.ext x⟩
    · rw [List.getElem?_set_ne hij] at hj
      obtain ⟨b, us, h1, h2, h3⟩ := e.own j zs hj
      have hba : b ≠ a := fun z => by
        subst z
        exact hij (e.dist i j xs zs b h hj hs h1)
      exact ⟨b, us, h1, by rw [upd_ne hba]; exact h2, h3.ext x⟩
  · obtain ⟨_, g1⟩ := g h1
    obtain ⟨_, g2⟩ := g h2
    exact e.dist j k _ _ b g1 g2 h3 h4
  · have : b ≠ a := fun z => by
      subst z
      exact n ⟨i, xs, h, hs⟩
    rw [upd_ne this]; exact q
  · by_cases hb : b = a
    · subst hb; rw [upd_same]; simp
    · rw [upd_ne hb]; exact q
  · obtain ⟨j, zs, h1, h2⟩ := q
    obtain ⟨zs', g1⟩ := g h1
    exact ⟨j, zs', g1, h2⟩
end

/-! ### an exception -/
def XR (K : PySem.W.Frag) (H : Hp) (x : Exn) (cls : Value) (dd : Option Addr) : Prop :=
  cls = .ref (He.ga K x.c) ∧ (x.ks ≠ [] → ∃ (a : Addr) (gs : List (Str × V)) (vs : List V), dd = some a ∧ H a = some (.xd gs) ∧ VRs K H x.fs vs ∧ x.ks.length = x.fs.length ∧ ∀ (i : Nat) (k : Str), x.ks[i]? = some k → gs.lookup k = vs[i]?)

/-! ### readings over data -/
def PostG {α β : Type} (R : Hp → α → β → Prop) (K : PySem.W.Frag) (pl : List Nat) (W : WX) (r : Res α) (ρ : Env) (σ : St) (H : Hp) (Q : β → Hp → Prop) : Prop := match r with
  | .ok a ρ' => ∀ b H', EnvR K ρ' σ H' → Step pl ρ σ H ρ' σ H' → R H' a b → Q b H'
  | .exc x ρ' => ∀ cls dd H', EnvR K ρ' σ H' → Step pl ρ σ H ρ' σ H' → XR K H' x cls dd → W cls dd σ H'
  | .bad => False
def tOfG {α β : Type} (R : Hp → α → β → Prop) (K : PySem.W.Frag) (pl : List Nat) (W : WX) (f : Env → Res α) : St → Hp → (β → Hp → Prop) → Prop :=
  fun σ H Q => ∃ ρ, EnvR K ρ σ H ∧ PostG R K pl W (f ρ) ρ σ H Q
section
variable {K : PySem.W.Frag} {pl : List Nat} {W : WX} {ρ ρ1 : Env} {σ : St} {H H1 : Hp} {α β γ δ : Type} {R : Hp → α → β → Prop} {R2 : Hp → γ → δ → Prop}
theorem PostG.trans {r : Res α} {Q : β → Hp → Prop} (s : Step pl ρ σ H ρ1 σ H1) (h : PostG R K pl W r ρ σ H Q) : PostG R K pl W r ρ1 σ H1 Q := by
  cases r with
  | ok a ρ' => exact fun b H' e st rr => h b H' e (s.trans st) rr
  | exc x ρ' => exact fun cls dd H' e st rr => h cls dd H' e (s.trans st) rr
  | bad => exact h
theorem bindG {f : Env → Res α} {k : α → Env → Res γ} {Q2 : δ → Hp → Prop} {Q1 : β → Hp → Prop} (hE : EnvR K ρ σ H) (hP : PostG R2 K pl W ((f ρ).bind k) ρ σ H Q2)
    (hk : ∀ a ρ1 b H1, EnvR K ρ1 σ H1 → Ext H H1 → R H1 a b → PostG R2 K pl W (k a ρ1) ρ1 σ H1 Q2 → Q1 b H1) : tOfG R K pl W f σ H Q1 := by
  refine ⟨ρ, hE, ?_⟩
  cases h : f ρ with
  | ok a ρ1 =>
    rw [h] at hP
    exact fun b H1 e1 s1 r1 => hk a ρ1 b H1 e1 (s1.ext hE) r1 (PostG.trans (r := k a ρ1) s1 hP)
  | exc x ρ1 =>
    rw [h] at hP
    exact hP
  | bad =>
    rw [h] at hP
    exact hP
end
abbrev tD (K : PySem.W.Frag) (pl : List Nat) (W : WX) (f : RE) : TE := tOfG (VR K) K pl W f
abbrev tDs (K : PySem.W.Frag) (pl : List Nat) (W : WX) (f : RM) : TA := tOfG (VRs K) K pl W f
abbrev tDb (K : PySem.W.Frag) (pl : List Nat) (W : WX) (f : RT) : TT := tOfG (fun _ a b => a = b) K pl W f

/-! ### freezing -/
theorem Inv_freeze {X : Cx} {pins : List (Addr × Obj)} {σ : St} {H : Hp} {s : Shared} {a : Addr} {xs : List V} (I : Inv X pins σ H s) (ha : H a = some (.lst xs)) : ∃ o, Inv X pins σ (upd H a (.frz o (.lst xs))) s := by
  obtain ⟨z, its, n, r, e⟩ := (show ObjOk X.prog X.w H s.heap a (.lst xs) from I.hok a _ ha)
  refine ⟨{ cls := .type "list", data := .seq its.toArray n }, I.ok, I.os, I.bare, ⟨I.base.keep, I.base.slot, fun b o h1 h2 h3 => ?_, I.base.there, fun b ys h => ?_, fun b o u h => ?_, fun b ps h => ?_⟩, I.loc, I.cell, ?_, fun y c h => ?_, fun p hp => ?_, fun b u h => ?_, I.len⟩
  · have q := I.base.free b o h1 h2 h3
    rw [upd_ne (fun z => by subst z; rw [ha] at q; cases q)]; exact q
  · have q := I.base.tups b ys h
    rw [upd_ne (fun z => by subst z; rw [ha] at q; cases q)]; exact q
  · have q := I.base.frzs b o u h
    rw [upd_ne (fun z => by subst z; rw [ha] at q; cases q)]; exact q
  · obtain ⟨m, q⟩ := I.base.tbls b ps h
    exact ⟨m, by rw [upd_ne (fun z => by subst z; rw [ha] at q; cases q)]; exact q⟩
  · have q := I.free
    rw [upd_ne (fun z => by rw [z, ha] at q; cases q)]; exact q
  · have q := I.freeC y c h
    rw [upd_ne (fun z => by rw [z, ha] at q; cases q)]; exact q
  · obtain ⟨h1, h2, h3⟩ := I.pin p hp
    exact ⟨h1, by rw [upd_ne (fun z => by rw [z, ha] at h2; cases h2)]; exact h2, h3⟩
  · have ow : ∀ b c, H b = some (.own c) → upd H a (.frz { cls := .type "list", data := .seq its.toArray n } (.lst xs)) b = some (.own c) := fun b c q => by
      rw [upd_ne (fun z => by subst z; rw [ha] at q; cases q)]; exact q
    have tu : ∀ b ys, H b = some (.tup ys) → upd H a (.frz { cls := .type "list", data := .seq its.toArray n } (.lst xs)) b = some (.tup ys) := fun b c q => by
      rw [upd_ne (fun z => by subst z; rw [ha] at q; cases q)]; exact q
    by_cases hb : b = a
    · subst hb
      rw [upd_same] at h
      cases h
      exact ⟨e, z, its, n, r, e⟩
    · rw [upd_ne hb] at h
      exact (I.hok b u h).stay (fun _ _ _ q => q) (fun c q => ow c b q) tu
/-- a result that may be a new list: it may be made to stand still -/
def FrzQ (Q : VK) : VK := fun v H => Q v H ∨ ∃ a xs, v = .ref a ∧ H a = some (.lst xs) ∧ ∀ o, Q v (upd H a (.frz o (.lst xs)))
theorem EP_freeze {X : Cx} {pins : List (Addr × Obj)} {σ : St} {Q : VK} {u : Value} {s : Shared} (h : EP X pins σ (FrzQ Q) u s) : EP X pins σ Q u s := by
  obtain ⟨v, H, I, r, q⟩ := h
  rcases q with q | ⟨a, xs, ev, ha, q⟩
  · exact ⟨v, H, I, r, q⟩
  · obtain ⟨o, J⟩ := Inv_freeze I ha
    exact ⟨v, _, J, r, q o⟩
theorem pe_frz {X : Cx} {e : Expr} {t : TE} (h : PE X e t) : PE X e (fun σ H Q => t σ H (FrzQ Q)) :=
  ⟨fun pins s σ H Q I hw => thn (h.run pins s σ H (FrzQ Q) I hw) fun u s1 q => EP_freeze q⟩
theorem pe_imp {X : Cx} {e : Expr} {t t' : TE} (h : PE X e t) (i : ∀ σ H Q, t' σ H Q → t σ H Q) : PE X e t' := ⟨fun pins s σ H Q I hw => h.run pins s σ H Q I (i σ H Q hw)⟩
theorem pt_imp {X : Cx} {e : Expr} {t t' : TT} (h : PT X e t) (i : ∀ σ H Q, t' σ H Q → t σ H Q) : PT X e t' := ⟨fun pins s σ H Q I hw => h.run pins s σ H Q I (i σ H Q hw)⟩
theorem pw_imp {X : Cx} {e : Expr} {t t' : TT} (h : PW X e t) (i : ∀ σ H Q, t' σ H Q → t σ H Q) : PW X e t' := ⟨fun wh pins s σ H Q I hw => h.run wh pins s σ H Q I (i σ H Q hw)⟩
theorem pa_imp {X : Cx} {es : List Expr} {t t' : TA} (h : PA X es t) (i : ∀ σ H Q, t' σ H Q → t σ H Q) : PA X es t' := ⟨fun p pins s σ H Q I hw => h.run p pins s σ H Q I (i σ H Q hw)⟩
theorem ps_imp {X : Cx} {st : Stmt} {t t' : TS} (h : PS X st t) (i : ∀ D σ H, t' D σ H → t D σ H) : PS X st t' := ⟨fun pins s σ H D I hw => h.run pins s σ H D I (i D σ H hw)⟩
theorem pss_imp {X : Cx} {st : List Stmt} {t t' : TS} (h : PSs X st t) (i : ∀ D σ H, t' D σ H → t D σ H) : PSs X st t' := ⟨fun pins s σ H D I hw => h.run pins s σ H D I (i D σ H hw)⟩

/-! ### the judgements -/
/-- what the frame wishes of exceptions is given with it -/
structure DE (X : Cx) (pl : List Nat) (W : WX) (e : Expr) (f : RE) : Prop where
  h : PE X e (tD X.K pl W f)
structure DT (X : Cx) (pl : List Nat) (W : WX) (e : Expr) (f : RT) : Prop where
  h : PT X e (tDb X.K pl W f)
structure DW (X : Cx) (pl : List Nat) (W : WX) (e : Expr) (f : RT) : Prop where
  h : PW X e (tDb X.K pl W f)
structure DAs (X : Cx) (pl : List Nat) (W : WX) (es : List Expr) (f : RM) : Prop where
  h : PA X es (tDs X.K pl W f)

/-! ### the same, or one object more -/
def Gr (H H' : Hp) : Prop := H' = H ∨ ∃ p o, H p = none ∧ H' = upd H p o
theorem Gr.keep {H H' : Hp} (g : Gr H H') : ∀ a o, H a = some o → H' a = some o := by
  rcases g with rfl | ⟨p, o, h, rfl⟩
  · exact fun _ _ h => h
  · exact upd_keep h
theorem Gr.ext {H H' : Hp} (g : Gr H H') : Ext H H' := ⟨fun a xs h => g.keep _ _ h, fun a o u h => g.keep _ _ h, fun a C dx fs h => g.keep _ _ h⟩
theorem Gr.refl (H : Hp) : Gr H H := .inl rfl
theorem Gr.new {H : Hp} {p : Addr} {o : HO} (h : H p = none) : Gr H (upd H p o) := .inr ⟨p, o, h, rfl⟩
/-- what follows an operation upon values -/
abbrev KD (K : PySem.W.Frag) (H : Hp) (z : D) (Q : VK) : Prop := ∀ v H', Gr H H' → VR K H' z v → Q v H'
theorem kd_of {K : PySem.W.Frag} {pl : List Nat} {W : WX} {ρ : Env} {σ : St} {H : Hp} {r : Option D} {Q : VK} (hE : EnvR K ρ σ H) (h : PostG (VR K) K pl W (give r ρ) ρ σ H Q) : ∃ z, r = some z ∧ KD K H z Q := by
  cases r with
  | none => exact h.elim
  | some z => exact ⟨z, rfl, fun v H' g rr => h v H' (hE.heap g.keep) (Step.heap g.keep) rr⟩
/-- a new list, made to stand still -/
theorem KD.list {K : PySem.W.Frag} {H : Hp} {ds : List D} {vs : List V} {Q : VK} (h : KD K H (.lst ds) Q) (r : VRs K H ds vs) {p : Addr} (hp : H p = none) : FrzQ Q (.ref p) (upd H p (.lst vs)) := by
  refine .inr ⟨p, vs, rfl, upd_same, fun o => ?_⟩
  rw [upd_upd]
  exact h _ _ (.new hp) (.lst ⟨o, upd_same⟩ (r.ext (Gr.new hp).ext))
theorem KD.tuple {K : PySem.W.Frag} {H : Hp} {ds : List D} {vs : List V} {Q : VK} (h : KD K H (.tup ds) Q) (r : VRs K H ds vs) {p : Addr} (hp : H p = none) : Q (.ref p) (upd H p (.tup vs)) :=
  h _ _ (.new hp) (.tup (SqT.of upd_same) (r.ext (Gr.new hp).ext))
theorem KD.same {K : PySem.W.Frag} {H : Hp} {z : D} {v : V} {Q : VK} (h : KD K H z Q) (r : VR K H z v) : Q v H := h v H (.refl H) r

section
variable {X : Cx} {pl : List Nat} {W : WX} {a b c e : Expr} {es : List Expr} {fa fb fc : RE} {fs : RM} {pos : Pos}

/-! ### names, constants -/
theorem de_const {z : D} {v : V} (h : PE X e (tC v)) (r : ∀ H, VR X.K H z v) : DE X pl W e (eC z) :=
  ⟨pe_imp h fun σ H Q ⟨ρ, hE, hP⟩ => hP v H hE .refl (r H)⟩
theorem de_var {i : Nat} {x : Str} (h : PE X (.Name x pos) (tVar i)) : DE X pl W (.Name x pos) (eV i) := by
  refine ⟨pe_imp (pe_frz h) fun σ H Q ⟨ρ, hE, hP⟩ => ?_⟩
  unfold eV at hP
  cases q : ρ.getD i .no with
  | no => rw [q] at hP; exact hP.elim
  | v d =>
    rw [q] at hP
    obtain ⟨v, h1, h2⟩ := hE.val i d (slot_get q (by simp))
    exact ⟨v, h1, .inl (hP v H hE .refl h2)⟩
  | o xs =>
    rw [q] at hP
    have hi := slot_get q (by simp)
    obtain ⟨p, vs, h1, h2, h3⟩ := hE.own i xs hi
    refine ⟨.ref p, h1, .inr ⟨p, vs, rfl, h2, fun o => ?_⟩⟩
    obtain ⟨g1, g2, g3⟩ := hE.freeze (pl := pl) (o := o) hi h1 h2 h3
    exact hP _ _ g1 g2 (.lst ⟨o, upd_same⟩ (h3.ext g3))

/-! ### operators -/
def OpD (X : Cx) (f : Value → Value → Sem Value) (op : D → D → Option D) : Prop :=
  OpR X f (fun x y H Q => ∃ d e z, VR X.K H d x ∧ VR X.K H e y ∧ op d e = some z ∧ KD X.K H z Q)
theorem OpR.frz {f : Value → Value → Sem Value} {r : R2} (h : OpR X f r) : OpR X f (fun x y H Q => r x y H (FrzQ Q)) :=
  fun pins s σ H x y v u Q I rx ry q => thn (h pins s σ H x y v u (FrzQ Q) I rx ry q) fun w s1 q1 => EP_freeze q1
theorem OpR.imp {f : Value → Value → Sem Value} {r r' : R2} (h : OpR X f r) (i : ∀ x y H Q, r' x y H Q → r x y H Q) : OpR X f r' :=
  fun pins s σ H x y v u Q I rx ry q => h pins s σ H x y v u Q I rx ry (i x y H Q q)
theorem e2_reads {op : D → D → Option D} : ∀ σ H Q, tD X.K pl W (e2 op fa fb) σ H Q →
    tOp (fun x y H Q => ∃ d e z, VR X.K H d x ∧ VR X.K H e y ∧ op d e = some z ∧ KD X.K H z Q) (tD X.K pl W fa) (tD X.K pl W fb) σ H Q := by
  rintro σ H Q ⟨ρ, hE, hP⟩
  refine bindG hE hP fun x ρ1 vx H1 E1 X1 r1 hP1 => ?_
  refine bindG E1 hP1 fun y ρ2 vy H2 E2 X2 r2 hP2 => ?_
  obtain ⟨z, hz, kd⟩ := kd_of E2 hP2
  exact ⟨x, y, z, r1.ext X2, r2, hz, kd⟩
theorem de_op {o : Operator} {op : D → D → Option D} (ho : OpD X (binaryOp o) op) (ha : DE X pl W a fa) (hb : DE X pl W b fb) : DE X pl W (.BinOp a o b pos) (e2 op fa fb) :=
  ⟨pe_imp (pe_op ho ha.h hb.h) e2_reads⟩
theorem de_cmp {o : CmpOp} {op : D → D → Option D} (ho : OpD X (compareOp o) op) (ha : DE X pl W a fa) (hb : DE X pl W b fb) (hm : behindInMarks o b = false) : DE X pl W (.Compare a [o] [b] pos) (e2 op fa fb) :=
  ⟨pe_imp (pe_cmpR ho ha.h hb.h hm) e2_reads⟩
/-- a reading as a test -/
theorem test_reads : ∀ σ H Q, tDb X.K pl W (tE fa) σ H Q → tTest (tD X.K pl W fa) σ H Q := by
  rintro σ H Q ⟨ρ, hE, hP⟩
  refine bindG hE hP fun x ρ1 vx H1 E1 X1 r1 hP1 => ?_
  cases x with
  | bl k => exact ⟨k, r1.inv_bl, hP1 k H1 E1 .refl rfl⟩
  | _ => exact hP1.elim
theorem dt_cmp {o : CmpOp} {op : D → D → Option D} (ho : OpD X (compareOp o) op) (ha : DE X pl W a fa) (hb : DE X pl W b fb) (hm : behindInMarks o b = false) : DT X pl W (.Compare a [o] [b] pos) (tE (e2 op fa fb)) := by
  refine ⟨pt_imp (pt_cmpR ho ha.h hb.h hm) fun σ H Q h => ?_⟩
  exact (show tOp _ _ _ σ H _ from e2_reads σ H _ (by
    obtain ⟨ρ, hE, hP⟩ := h
    exact bindG hE hP fun x ρ1 vx H1 E1 X1 r1 hP1 => by
      cases x with
      | bl k => exact ⟨k, r1.inv_bl, hP1 k H1 E1 .refl rfl⟩
      | _ => exact hP1.elim))
theorem dt_val (h : DE X pl W e fa) (he : ∀ whole, isTrue e X.env whole = (do let v ← whole; standAt e.pos; holding [v] (truthy v))) : DT X pl W e (tE fa) :=
  ⟨pt_imp (pt_val h.h he) test_reads⟩
theorem dt_not {t : RT} (h : DT X pl W a t) : DT X pl W (.UnaryOp .Not a pos) (tNotD t) := by
  refine ⟨pt_imp (pt_not h.h) fun σ H Q ⟨ρ, hE, hP⟩ => ?_⟩
  refine bindG hE hP fun x ρ1 y H1 E1 X1 r1 hP1 => ?_
  cases r1
  exact hP1 _ H1 E1 .refl rfl
theorem dw_and1 {t : RT} (h : DT X pl W a t) : DW X pl W (.BoolOp .And [a] pos) t := ⟨pw_and1 h.h⟩
theorem dw_or1 {t : RT} (h : DT X pl W a t) : DW X pl W (.BoolOp .Or [a] pos) t := ⟨pw_or1 h.h⟩
theorem dw_and {t u : RT} {rest : List Expr} (h : DT X pl W a t) (h2 : DW X pl W (.BoolOp .And (b :: rest) pos) u) : DW X pl W (.BoolOp .And (a :: b :: rest) pos) (tAndD t u) := by
  refine ⟨pw_imp (pw_and h.h h2.h) fun σ H Q ⟨ρ, hE, hP⟩ => ?_⟩
  refine bindG hE hP fun x ρ1 y H1 E1 X1 r1 hP1 => ?_
  cases r1
  cases x with
  | true => exact iteT ⟨ρ1, E1, hP1⟩
  | false => exact iteF (hP1 _ H1 E1 .refl rfl)
theorem dw_or {t u : RT} {rest : List Expr} (h : DT X pl W a t) (h2 : DW X pl W (.BoolOp .Or (b :: rest) pos) u) : DW X pl W (.BoolOp .Or (a :: b :: rest) pos) (tOrD t u) := by
  refine ⟨pw_imp (pw_or h.h h2.h) fun σ H Q ⟨ρ, hE, hP⟩ => ?_⟩
  refine bindG hE hP fun x ρ1 y H1 E1 X1 r1 hP1 => ?_
  cases r1
  cases x with
  | true => exact iteT (hP1 _ H1 E1 .refl rfl)
  | false => exact iteF ⟨ρ1, E1, hP1⟩
theorem dw_dt {t : RT} (h : DW X pl W e t) : DT X pl W e t := ⟨PW.pt h.h⟩
/-! .. as values -/
theorem de_one {o : BoolOp} (h : DE X pl W a fa) : DE X pl W (.BoolOp o [a] pos) fa := ⟨pe_one h.h⟩
theorem de_and {rest : List Expr} (h : DE X pl W a fa) (h2 : DE X pl W (.BoolOp .And (b :: rest) pos) fb) : DE X pl W (.BoolOp .And (a :: b :: rest) pos) (eAnd fa fb) := by
  refine ⟨pe_imp (pe_and h.h h2.h) fun σ H Q ⟨ρ, hE, hP⟩ => ?_⟩
  refine bindG hE hP fun x ρ1 y H1 E1 X1 r1 hP1 => ?_
  cases x with
  | bl k =>
    refine ⟨k, r1.inv_bl, ?_⟩
    cases k with
    | true => exact iteT ⟨ρ1, E1, hP1⟩
    | false => exact iteF (hP1 _ H1 E1 .refl (.bl false))
  | _ => exact hP1.elim
theorem de_or {rest : List Expr} (h : DE X pl W a fa) (h2 : DE X pl W (.BoolOp .Or (b :: rest) pos) fb) : DE X pl W (.BoolOp .Or (a :: b :: rest) pos) (eOr fa fb) := by
  refine ⟨pe_imp (pe_or h.h h2.h) fun σ H Q ⟨ρ, hE, hP⟩ => ?_⟩
  refine bindG hE hP fun x ρ1 y H1 E1 X1 r1 hP1 => ?_
  cases x with
  | bl k =>
    refine ⟨k, r1.inv_bl, ?_⟩
    cases k with
    | true => exact iteT (hP1 _ H1 E1 .refl (.bl true))
    | false => exact iteF ⟨ρ1, E1, hP1⟩
  | _ => exact hP1.elim
theorem de_not (h : DE X pl W a fa) : DE X pl W (.UnaryOp .Not a pos) (eNot fa) := by
  refine ⟨pe_imp (pe_not h.h) fun σ H Q ⟨ρ, hE, hP⟩ => ?_⟩
  refine bindG hE hP fun x ρ1 y H1 E1 X1 r1 hP1 => ?_
  cases x with
  | bl k => exact ⟨k, r1.inv_bl, hP1 _ H1 E1 .refl (.bl _)⟩
  | _ => exact hP1.elim
theorem de_neg (h : DE X pl W a fa) : DE X pl W (.UnaryOp .USub a pos) (e1 opNeg fa) := by
  refine ⟨pe_imp (pe_un un_neg h.h) fun σ H Q ⟨ρ, hE, hP⟩ => ?_⟩
  refine bindG hE hP fun x ρ1 y H1 E1 X1 r1 hP1 => ?_
  cases x with
  | int k => exact ⟨k, r1.inv_int, hP1 _ H1 E1 .refl (.int _)⟩
  | _ => exact hP1.elim
theorem de_ifExp {t : RT} (ht : DT X pl W c t) (ha : DE X pl W a fa) (hb : DE X pl W b fb) : DE X pl W (.IfExp c a b pos) (eIf t fa fb) := by
  refine ⟨pe_imp (pe_ifExp ht.h ha.h hb.h) fun σ H Q ⟨ρ, hE, hP⟩ => ?_⟩
  refine bindG hE hP fun x ρ1 y H1 E1 X1 r1 hP1 => ?_
  cases r1
  cases x with
  | true => exact iteT ⟨ρ1, E1, hP1⟩
  | false => exact iteF ⟨ρ1, E1, hP1⟩
theorem VR.isNon {K : PySem.W.Frag} {H : Hp} {d : D} {v : V} (r : VR K H d v) : decide (v = .non) = d.isN := by
  cases r <;> simp [D.isN]
theorem VR.notNon {K : PySem.W.Frag} {H : Hp} {d : D} {v : V} (r : VR K H d v) : (!decide (v = .non)) = !d.isN := by rw [r.isNon]
theorem de_isN {j p2} (h : DE X pl W a fa) : DE X pl W (.Compare a [.Is] [.Constant .none j p2] pos) (eIsN fa) := by
  refine ⟨pe_imp (pe_cmp (pc_isN h.h) (by rfl)) fun σ H Q ⟨ρ, hE, hP⟩ => ?_⟩
  refine bindG hE hP fun x ρ1 y H1 E1 X1 r1 hP1 => ?_
  rw [r1.isNon]
  exact hP1 _ H1 E1 .refl (.bl _)
theorem de_notN {j p2} (h : DE X pl W a fa) : DE X pl W (.Compare a [.IsNot] [.Constant .none j p2] pos) (eNotN fa) := by
  refine ⟨pe_imp (pe_cmp (pc_notN h.h) (by rfl)) fun σ H Q ⟨ρ, hE, hP⟩ => ?_⟩
  refine bindG hE hP fun x ρ1 y H1 E1 X1 r1 hP1 => ?_
  rw [r1.notNon]
  exact hP1 _ H1 E1 .refl (.bl _)
theorem dt_isN {j p2} (h : DE X pl W a fa) : DT X pl W (.Compare a [.Is] [.Constant .none j p2] pos) (tE (eIsN fa)) := by
  refine ⟨pt_imp (pt_cmp (pc_isN h.h) (by rfl)) fun σ H Q ⟨ρ, hE, hP⟩ => ?_⟩
  unfold tE eIsN at hP
  rw [Res.bind_assoc] at hP
  refine bindG hE hP fun x ρ1 y H1 E1 X1 r1 hP1 => ?_
  exact ⟨_, rfl, hP1 _ H1 E1 .refl r1.isNon.symm⟩
theorem dt_notN {j p2} (h : DE X pl W a fa) : DT X pl W (.Compare a [.IsNot] [.Constant .none j p2] pos) (tE (eNotN fa)) := by
  refine ⟨pt_imp (pt_cmp (pc_notN h.h) (by rfl)) fun σ H Q ⟨ρ, hE, hP⟩ => ?_⟩
  unfold tE eNotN at hP
  rw [Res.bind_assoc] at hP
  refine bindG hE hP fun x ρ1 y H1 E1 X1 r1 hP1 => ?_
  exact ⟨_, rfl, hP1 _ H1 E1 .refl r1.notNon.symm⟩

/-! ### several -/
theorem das_nil : DAs X pl W [] eNil := ⟨pa_imp pa_nil fun σ H Q ⟨ρ, hE, hP⟩ => hP [] H hE .refl .nil⟩
theorem das_cons (h : DE X pl W e fa) (hr : DAs X pl W es fs) (hs : starEach (e :: es) X.env = (false, eval e X.env) :: starEach es X.env) : DAs X pl W (e :: es) (eCons fa fs) := by
  refine ⟨pa_imp (pa_cons h.h hr.h hs) fun σ H Q ⟨ρ, hE, hP⟩ => ?_⟩
  refine bindG hE hP fun x ρ1 y H1 E1 X1 r1 hP1 => ?_
  refine bindG E1 hP1 fun xs ρ2 ys H2 E2 X2 r2 hP2 => ?_
  exact hP2 _ H2 E2 .refl (.cons (r1.ext X2) r2)
theorem szL_line : szL = sizeLine := sizeLine_eq.symm
theorem de_tup {k : Nat} (h : DAs X pl W es fs) : DE X pl W (.Tuple es k pos) (eTup fs) := by
  refine ⟨pe_imp (pe_tup h.h) fun σ H Q ⟨ρ, hE, hP⟩ => ?_⟩
  refine bindG hE hP fun xs ρ1 ys H1 E1 X1 r1 hP1 => ?_
  by_cases hl : xs.length ≤ szL
  · rw [if_pos hl] at hP1
    refine ⟨by rw [← r1.length, ← szL_line]; exact hl, fun p hp => ?_⟩
    exact hP1 _ _ (E1.heap (upd_keep hp)) (Step.heap (upd_keep hp)) (.tup (SqT.of upd_same) (r1.ext (Gr.new hp).ext))
  · rw [if_neg hl] at hP1
    exact hP1.elim
end
end
end DL
/-! DLC: operators, items, slices, built-ins upon data. -/
namespace DL
noncomputable section
open PySem PySem.Spec PyProof.Rows L2

theorem Inv_rdM {X : Cx} {pins : List (Addr × Obj)} {σ : St} {H : Hp} {s : Shared} {l : Addr} {xs : List V} (I : Inv X pins σ H s) (h : FzL H l xs) :
    xs.length ≤ sizeLine ∧ ∃ (its : List Value) (n : Nat), Vals xs its ∧ xs.length = its.length ∧ s.heap.get? l = some { cls := .type "list", data := .seq its.toArray n } := by
  obtain ⟨o, h⟩ := h
  obtain ⟨z, its, n, r, e⟩ := (show ObjOk X.prog X.w H s.heap l (.lst xs) from (Rd.ok (.inr ⟨o, h⟩) I.hok))
  exact ⟨z, its, n, r, r.length, e⟩

section
variable {X : Cx}
/-! ### + - * // % -/
def rCatF : R2 := fun x y H Q => ∃ l b xs zs, x = .ref l ∧ y = .ref b ∧ FzL H l xs ∧ FzL H b zs ∧ xs.length + zs.length ≤ sizeLine ∧ ∀ p, H p = none → Q (.ref p) (upd H p (.lst (xs ++ zs)))
theorem op_catF : OpR X (binaryOp .Add) rCatF := by
  intro pins s σ H x y v u Q I rx ry h
  obtain ⟨l, b, xs, zs, rfl, rfl, hH, hB, hz, q⟩ := h
  cases rx
  cases ry
  obtain ⟨z, its, n, r, hl, e⟩ := Inv_rdM I hH
  obtain ⟨z2, its2, n2, r2, hl2, e2⟩ := Inv_rdM I hB
  refine PySem.P.add_list e e2 ?_ (by rw [List.size_toArray, List.size_toArray]; omega)
  have ea : its.toArray ++ its2.toArray = (its ++ its2).toArray := by simp
  rw [ea]
  exact ⟨.ref _, _, I.lnew (t' := s.toks) (r.append r2) (by rw [List.length_append]; omega), rfl, q _ I.fresh⟩
theorem if_some {α : Type} {c : Prop} [Decidable c] {a z : α} (h : (if c then some a else none) = some z) : c ∧ a = z := by
  by_cases hc : c
  · rw [if_pos hc] at h; exact ⟨hc, Option.some.inj h⟩
  · rw [if_neg hc] at h; cases h
theorem opd_add : OpD X (binaryOp .Add) opAdd := by
  refine OpR.imp (OpR.frz (OpR.or op_add (OpR.or op_add_str (OpR.or op_catA op_catF)))) fun x y H Q ⟨d, e, z, r1, r2, hz, kd⟩ => ?_
  cases d with
  | int i =>
    cases e with
    | int j =>
      cases hz
      cases r1
      cases r2
      exact .inl ⟨i, j, rfl, rfl, .inl (kd.same (.int _))⟩
    | _ => cases hz
  | str i =>
    cases e with
    | str j =>
      obtain ⟨hl, hz⟩ := if_some hz
      subst hz
      cases r1
      cases r2
      exact .inr (.inl ⟨i, j, rfl, rfl, by rw [← szL_line]; exact hl, .inl (kd.same (.str _))⟩)
    | _ => cases hz
  | tup i =>
    cases e with
    | tup j =>
      obtain ⟨hl, hz⟩ := if_some hz
      subst hz
      obtain ⟨a, vs, rfl, ha, ra⟩ := r1.inv_tup
      obtain ⟨b, ws, rfl, hb, rb⟩ := r2.inv_tup
      refine .inr (.inr (.inl ⟨a, b, vs, ws, rfl, rfl, ha, hb, by rw [← ra.length, ← rb.length, ← szL_line]; exact hl, fun e0 => ?_, fun _ e0 => ?_, fun _ _ p hp => ?_⟩))
      · subst e0
        cases ra
        exact .inl (kd.same (.tup hb rb))
      · subst e0
        cases rb
        refine .inl (kd.same (.tup ha ?_))
        rw [List.append_nil]
        exact ra
      · exact .inl (KD.tuple kd (ra.append rb) hp)
    | _ => cases hz
  | lst i =>
    cases e with
    | lst j =>
      obtain ⟨hl, hz⟩ := if_some hz
      subst hz
      obtain ⟨a, vs, rfl, ha, ra⟩ := r1.inv_lst
      obtain ⟨b, ws, rfl, hb, rb⟩ := r2.inv_lst
      exact .inr (.inr (.inr ⟨a, b, vs, ws, rfl, rfl, ha, hb, by rw [← ra.length, ← rb.length, ← szL_line]; exact hl, fun p hp => KD.list kd (ra.append rb) hp⟩))
    | _ => cases hz
  | _ => cases hz
theorem opd_sub : OpD X (binaryOp .Sub) opSub := by
  refine OpR.imp op_sub fun x y H Q ⟨d, e, z, r1, r2, hz, kd⟩ => ?_
  cases d with
  | int i =>
    cases e with
    | int j =>
      cases hz
      cases r1
      cases r2
      exact ⟨i, j, rfl, rfl, kd.same (.int _)⟩
    | _ => cases hz
  | _ => cases hz
theorem opd_mod : OpD X (binaryOp .Mod) opMod := by
  refine OpR.imp op_mod fun x y H Q ⟨d, e, z, r1, r2, hz, kd⟩ => ?_
  cases d with
  | int i =>
    cases e with
    | int j =>
      obtain ⟨hl, hz⟩ := if_some hz
      subst hz
      cases r1
      cases r2
      exact ⟨i, j, rfl, rfl, hl, kd.same (.int _)⟩
    | _ => cases hz
  | _ => cases hz
theorem opd_div : OpD X (binaryOp .FloorDiv) opDiv := by
  refine OpR.imp op_fdivW fun x y H Q ⟨d, e, z, r1, r2, hz, kd⟩ => ?_
  cases d with
  | int i =>
    cases e with
    | int j =>
      obtain ⟨hl, hz⟩ := if_some hz
      rw [okDv_eq] at hl
      obtain ⟨hl1, hl2⟩ := Bool.and_eq_true_iff.mp hl
      have hl3 : (0 : Int) < j := of_decide_eq_true hl1
      have hl4 : j < 79228162514264337593543950336 := of_decide_eq_true hl2
      have hl : CDivW i j := wide_div (b := 96) hl3 (by rw [show (2 : Nat) ^ 96 = 79228162514264337593543950336 by decide]; omega) (by decide) (by decide)
      subst hz
      cases r1
      cases r2
      exact ⟨i, j, rfl, rfl, hl, kd.same (.int _)⟩
    | _ => cases hz
  | _ => cases hz
theorem smallF_ok {a : Int} (h : smallF a = true) : -(2 ^ 64) < a ∧ a < 2 ^ 64 := by
  rw [smallF_eq] at h
  obtain ⟨h1, h2⟩ := Bool.and_eq_true_iff.mp h
  have e : (2 : Int) ^ 64 = two64 := by decide
  rw [e]
  exact ⟨of_decide_eq_true h1, of_decide_eq_true h2⟩
/-! a list times an int; a tuple times an int -/
def rRepF : R2 := fun x y H Q => ∃ l k xs, x = .ref l ∧ y = .int k ∧ FzL H l xs ∧ -(2 ^ 63) ≤ k ∧ k < 2 ^ 63 ∧ xs.length * k.toNat ≤ sizeLine ∧
  ∀ p, H p = none → Q (.ref p) (upd H p (.lst (List.replicate k.toNat xs).flatten))
theorem op_repF : OpR X (binaryOp .Mult) rRepF := by
  intro pins s σ H x y v u Q I rx ry h
  obtain ⟨l, k, xs, rfl, rfl, hH, h1, h2, hz, q⟩ := h
  cases rx
  obtain ⟨t, rfl⟩ := ry
  obtain ⟨z, its, n, r, hl, e⟩ := Inv_rdM I hH
  have hlen : its.toArray.size * k.toNat ≤ sizeLine := by rw [List.size_toArray, ← hl]; exact hz
  have hcap : ¬ its.toArray.size * k.toNat > (2 ^ 63 - 1) / 8 := by
    have : (sizeLine : Nat) ≤ (2 ^ 63 - 1) / 8 := by decide
    omega
  have hfit : ¬ (!Builtin.List.listFitsIndex k) = true := by
    rw [fitsIndex_both h1 h2]
    exact Bool.false_ne_true
  have hlong : ¬ Builtin.List.listTooLong (its.toArray.size * k.toNat) = true := by
    rw [notLongL hlen]
    exact Bool.false_ne_true
  have hnew : List.foldl (fun x1 x2 => x1 ++ x2) #[] (List.replicate (if its.toArray.isEmpty = true then 0 else k.toNat) its.toArray) = (List.replicate k.toNat its).flatten.toArray := by
    have f0 : ∀ m : Nat, List.foldl (fun x1 x2 => x1 ++ x2) #[] (List.replicate m its.toArray) = (List.replicate m its).flatten.toArray := fun m => by
      have := foldl_rep its m []
      rw [List.nil_append] at this
      exact this
    rw [f0]
    cases its with
    | nil => simp
    | cons a r' => rw [if_neg (by simp)]
  refine wpAny_binaryOp_repeat_ref (T := "list") (U := "int") (by decide) ⟨_, e, rfl⟩ (fun s' => typeIs_int s' k t) noFill_list_mul PySem.F.fills_int_mul PySem.F.slot_int_rmul repeat_list PySem.F.slot_int_index.lookup
    (call_meets PySem.F.slot_int_rmul (typeIs_int s k t) PySem.F.entry_int_rmul (PySem.F.args_int_rmul_2 _ _) (int___rmul___int_list k t l its.toArray n)
      ⟨e, rfl, ⟨_, e, rfl⟩, call_meets PySem.F.slot_list_mul ⟨_, e, rfl⟩ PySem.F.entry_list_mul (PySem.F.args_list_mul_2 _ _) (AutoListH.list___mul___list_int_3 l its.toArray n k t hfit hcap hlong) ⟨e, ?_⟩⟩)
  rw [hnew]
  exact ⟨.ref _, _, I.lnew (t' := s.toks) (r.rep k.toNat) (by rw [PyProof.Rows.lm_len_rep_flat, Nat.mul_comm]; exact hz), rfl, q _ I.fresh⟩
theorem tuple_mulS (l : Addr) (items : Array Value) (n : Nat) (dd : Option Addr) (sl : Array (Option Value)) (x : Int) (u : Tok) (c0 : (decide (x < -(2 ^ 63)) || decide (x ≥ 2 ^ 63)) = false) (c1 : (items.isEmpty || x == 1) = true) :
    Meets (Builtin.«tuple.__mul__» ⟨[.ref l, .int x u], []⟩) (fun _ R s => s.heap.get? l = some { cls := .type "tuple", dict := dd, data := .seq items n, slots := sl } ∧
      R (.ok (.ret (Value.ref l))) s) :=
  .of_wp fun prog w A R s h => by
    obtain ⟨hp, g, d, tk, os⟩ := s
    obtain ⟨hl, h⟩ := h
    have f1 := AutoSeq1.idx_int
    wp_walk using wpAny_loadPart' hl
    repeat (first
      | (refine wpAny_ite_false (decide_eq_false (by rw [c0]; exact Bool.false_ne_true)) ?_; wp_walk using wpAny_loadPart' hl)
      | (refine wpAny_ite_true (decide_eq_true c1) ?_; wp_walk using wpAny_loadPart' hl))
    exact ⟨_, rfl, h⟩
theorem tuple_mulE (l : Addr) (items : Array Value) (n : Nat) (dd : Option Addr) (sl : Array (Option Value)) (x : Int) (u : Tok) (c0 : (decide (x < -(2 ^ 63)) || decide (x ≥ 2 ^ 63)) = false) (c1 : (items.isEmpty || x == 1) = false) (c2 : (decide (x ≤ 0) || items.isEmpty) = true) :
    Meets (Builtin.«tuple.__mul__» ⟨[.ref l, .int x u], []⟩) (fun _ R s => s.heap.get? l = some { cls := .type "tuple", dict := dd, data := .seq items n, slots := sl } ∧
      R (.ok (.ret (Value.ref s.heap.objs.size))) { s with heap := s.heap.push { cls := Value.type "tuple", data := Data.seq #[] }, toks := s.toks }) :=
  .of_wp fun prog w A R s h => by
    obtain ⟨hp, g, d, tk, os⟩ := s
    obtain ⟨hl, h⟩ := h
    have f1 := AutoSeq1.idx_int
    wp_walk using wpAny_loadPart' hl
    repeat (first
      | (refine wpAny_ite_false (decide_eq_false (by rw [c0]; exact Bool.false_ne_true)) ?_; wp_walk using wpAny_loadPart' hl)
      | (refine wpAny_ite_false (decide_eq_false (by rw [c1]; exact Bool.false_ne_true)) ?_; wp_walk using wpAny_loadPart' hl)
      | (refine wpAny_ite_true (decide_eq_true c2) ?_; wp_walk using wpAny_loadPart' hl))
    exact ⟨_, rfl, h⟩
theorem rep_nil : ∀ n : Nat, (List.replicate n ([] : List D)).flatten = []
  | 0 => rfl
  | n + 1 => by rw [List.replicate_succ, List.flatten_cons, rep_nil n]; rfl
theorem ok63_ok {k : Int} (h : ok63 k = true) : -two63 ≤ k ∧ k < two63 := by
  rw [ok63_eq] at h
  obtain ⟨h1, h2⟩ := Bool.and_eq_true_iff.mp h
  exact ⟨of_decide_eq_true h1, of_decide_eq_true h2⟩
theorem repL_some {xs ys : List D} {k : Int} (h : repL xs k = some ys) : xs.length * k.toNat ≤ szL ∧ -two63 ≤ k ∧ k < two63 ∧ (List.replicate k.toNat xs).flatten = ys := by
  unfold repL at h
  obtain ⟨⟨h1, h23⟩, e⟩ := if_some h
  obtain ⟨h2, h3⟩ := ok63_ok h23
  exact ⟨h1, h2, h3, e⟩
theorem two63_eq : (2 : Int) ^ 63 = two63 := by decide
/-- a tuple times an int, as a reading of data -/
def rRepD (K : PySem.W.Frag) : R2 := fun x y H Q => ∃ l k xs ds es, x = .ref l ∧ y = .int k ∧ SqT K H l xs ∧ VRs K H ds xs ∧ repL ds k = some es ∧ KD K H (.tup es) Q
theorem op_repD : OpR X (binaryOp .Mult) (rRepD X.K) := by
  intro pins s σ H x y v u Q I rx ry h
  obtain ⟨l, k, xs, ds, es, rfl, rfl, hT, rd, hr, kd⟩ := h
  obtain ⟨hs1, hs2, hs3, he⟩ := repL_some hr
  subst he
  cases rx
  obtain ⟨t, rfl⟩ := ry
  obtain ⟨its, r, ⟨⟨cls, dd, data, sl⟩, ho, hc, n, hd⟩, hs⟩ := I.tuple hT
  simp only at hc hd
  subst hc hd
  have hle : its.length = xs.length := r.length.symm
  have hsz0 : its.toArray.size = xs.length := by rw [List.size_toArray, hle]
  have hk := two63_eq
  have c0 : (decide (k < -(2 ^ 63)) || decide (k ≥ 2 ^ 63)) = false := by
    rw [hk, decide_eq_false (by omega), decide_eq_false (by omega)] <;> rfl
  have hdl : ds.length = xs.length := rd.length
  refine wpAny_binaryOp_repeat_ref (T := "tuple") (U := "int") (by decide) ⟨_, ho, rfl⟩ (fun s' => typeIs_int s' k t) noFill_tuple_mul PySem.F.fills_int_mul PySem.F.slot_int_rmul repeat_tuple PySem.F.slot_int_index.lookup
    (call_meets PySem.F.slot_int_rmul (typeIs_int s k t) PySem.F.entry_int_rmul (PySem.F.args_int_rmul_2 _ _) (int_rmul_tuple k t l its.toArray n dd sl) ⟨ho, rfl, ⟨_, ho, rfl⟩, ?_⟩)
  by_cases h1 : (its.toArray.isEmpty || k == 1) = true
  · refine call_meets PySem.F.slot_tuple_mul ⟨_, ho, rfl⟩ PySem.F.entry_tuple_mul (PySem.F.args_tuple_mul_2 _ _) (tuple_mulS l its.toArray n dd sl k t c0 h1) ⟨ho, ?_⟩
    refine ⟨.ref l, H, I, rfl, kd.same ?_⟩
    rcases Bool.or_eq_true_iff.mp h1 with z | z
    · have e0 : xs = [] := by
        cases xs with
        | nil => rfl
        | cons a b => cases r; simp at z
      subst e0
      cases rd
      rw [rep_nil]
      exact .tup hT .nil
    · have e0 : k = 1 := by simpa using z
      subst e0
      have : (List.replicate (1 : Int).toNat ds).flatten = ds := by simp
      rw [this]
      exact .tup hT rd
  · have h1 : (its.toArray.isEmpty || k == 1) = false := by simpa using h1
    by_cases h2 : (decide (k ≤ 0) || its.toArray.isEmpty) = true
    · refine call_meets PySem.F.slot_tuple_mul ⟨_, ho, rfl⟩ PySem.F.entry_tuple_mul (PySem.F.args_tuple_mul_2 _ _) (tuple_mulE l its.toArray n dd sl k t c0 h1 h2) ⟨ho, ?_⟩
      have e0 : k.toNat = 0 := by
        rcases Bool.or_eq_true_iff.mp h2 with z | z
        · have := of_decide_eq_true z
          omega
        · rw [z] at h1; cases h1
      rw [e0] at kd
      refine ⟨.ref s.heap.objs.size, _, I.laid (t' := s.toks) (o := .tup []) (fun b ob q => Heap.get?_push_of_some _ q) (Nat.le_refl _) ?_, rfl, KD.tuple (vs := []) kd .nil (I.hok.fresh (Nat.le_refl _))⟩
      exact ⟨Nat.zero_le _, [], .nil, IsTup.new _ _⟩
    · have h2 : (decide (k ≤ 0) || its.toArray.isEmpty) = false := by simpa using h2
      have hpos : 0 < k := by
        have := (Bool.or_eq_false_iff.mp h2).1
        have := of_decide_eq_false this
        omega
      have hm : its.toArray.size * k.toNat ≤ szL := by rw [hsz0, ← hdl]; exact hs1
      have hm' : ((its.toArray.size : Nat) : Int) * k ≤ 16777216 := by
        have e : ((its.toArray.size : Nat) : Int) * k = ((its.toArray.size * k.toNat : Nat) : Int) := by
          rw [Int.natCast_mul, Int.toNat_of_nonneg (by omega)]
        rw [e]
        exact Int.ofNat_le.mpr hm
      have c4 : Builtin.Tuple.tupleTooMany (((its.toArray.size : Nat) : Int) * k) = false := by
        unfold Builtin.Tuple.tupleTooMany
        rw [sizeLine_eq]
        exact decide_eq_false (by omega)
      have flen : (List.replicate k.toNat its).flatten.length ≤ sizeLine := by
        rw [PyProof.Rows.lm_len_rep_flat, sizeLine_eq, Nat.mul_comm, ← List.size_toArray]
        exact hm
      refine call_meets PySem.F.slot_tuple_mul ⟨_, ho, rfl⟩ PySem.F.entry_tuple_mul (PySem.F.args_tuple_mul_2 _ _) (tuple_mulW l its.toArray n dd sl k t c0 h1 h2 (by omega) c4 (by rw [size_rep, List.size_toArray]; exact flen)) ⟨ho, ?_⟩
      rw [size_rep]
      refine ⟨.ref s.heap.objs.size, _, I.laid (t' := s.toks) (o := .tup (List.replicate k.toNat xs).flatten) (fun b ob q => Heap.get?_push_of_some _ q) (Nat.le_refl _) ?_, rfl, KD.tuple kd (rd.rep k.toNat) (I.hok.fresh (Nat.le_refl _))⟩
      exact ⟨by rw [PyProof.Rows.lm_len_rep_flat, ← hle, ← PyProof.Rows.lm_len_rep_flat]; exact flen, _, r.rep k.toNat, IsTup.new _ _⟩
theorem opd_mul : OpD X (binaryOp .Mult) opMul := by
  refine OpR.imp (OpR.frz (OpR.or op_mul (OpR.or op_repF op_repD))) fun x y H Q ⟨d, e, z, r1, r2, hz, kd⟩ => ?_
  have hk := two63_eq
  cases d with
  | int i =>
    cases e with
    | int j =>
      obtain ⟨hl, hz⟩ := if_some hz
      subst hz
      cases r1
      cases r2
      refine .inl ⟨i, j, rfl, rfl, ?_, .inl (kd.same (.int _))⟩
      rcases Bool.or_eq_true_iff.mp hl with q | q
      · exact .inl (smallF_ok q)
      · exact .inr (smallF_ok q)
    | _ => cases hz
  | tup i =>
    cases e with
    | int k =>
      obtain ⟨es, h1, h2⟩ := Option.map_eq_some_iff.mp hz
      subst h2
      obtain ⟨a, vs, rfl, ha, ra⟩ := r1.inv_tup
      cases r2
      exact .inr (.inr ⟨a, k, vs, i, es, rfl, rfl, ha, ra, h1, fun v H' g r => .inl (kd v H' g r)⟩)
    | _ => cases hz
  | lst i =>
    cases e with
    | int k =>
      obtain ⟨es, h1, h2⟩ := Option.map_eq_some_iff.mp hz
      subst h2
      obtain ⟨hs1, hs2, hs3, he⟩ := repL_some h1
      subst he
      obtain ⟨a, vs, rfl, ha, ra⟩ := r1.inv_lst
      cases r2
      exact .inr (.inl ⟨a, k, vs, rfl, rfl, ha, by rw [hk]; exact hs2, by rw [hk]; exact hs3, by rw [← ra.length, ← szL_line]; exact hs1, fun p hp => KD.list kd (ra.rep _) hp⟩)
    | _ => cases hz
  | _ => cases hz

/-! ### comparisons -/
theorem opd_int {o : CmpOp} {g : Int → Int → Bool} {op : D → D → Option D} (h : OpR X (compareOp o) (rI0 fun i j => .bl (g i j))) (hop : ∀ d e z, op d e = some z → ∃ i j, d = .int i ∧ e = .int j ∧ z = .bl (g i j)) : OpD X (compareOp o) op := by
  refine OpR.imp h fun x y H Q ⟨d, e, z, r1, r2, hz, kd⟩ => ?_
  obtain ⟨i, j, rfl, rfl, rfl⟩ := hop d e z hz
  cases r1
  cases r2
  exact ⟨i, j, rfl, rfl, kd.same (.bl _)⟩
theorem opd_lt : OpD X (compareOp .Lt) opLt := opd_int op_lt fun d e z h => by
  cases d <;> first
    | (cases e <;> first
        | exact ⟨_, _, rfl, rfl, (Option.some.inj h).symm⟩
        | cases h)
    | cases h
theorem opd_le : OpD X (compareOp .LtE) opLe := opd_int op_le fun d e z h => by
  cases d <;> first
    | (cases e <;> first
        | exact ⟨_, _, rfl, rfl, (Option.some.inj h).symm⟩
        | cases h)
    | cases h
theorem opd_gt : OpD X (compareOp .Gt) opGt := opd_int op_gt fun d e z h => by
  cases d <;> first
    | (cases e <;> first
        | exact ⟨_, _, rfl, rfl, (Option.some.inj h).symm⟩
        | cases h)
    | cases h
theorem opd_ge : OpD X (compareOp .GtE) opGe := opd_int op_ge fun d e z h => by
  cases d <;> first
    | (cases e <;> first
        | exact ⟨_, _, rfl, rfl, (Option.some.inj h).symm⟩
        | cases h)
    | cases h
/-! data of the library -/
mutual
theorem py_of {K : PySem.W.Frag} {H : Hp} : ∀ (d : D) {v : V}, VR K H d v → D.fin d = true → ∃ p, D.py d = some p ∧ Dp K H v p ∧ p.canLay0 = true ∧ p.depth = D.dep d
  | .non, _, r, _ => by cases r; exact ⟨_, rfl, .non, rfl, rfl⟩
  | .bl b, _, r, _ => by cases r; exact ⟨_, rfl, .bl b, rfl, rfl⟩
  | .int i, _, r, _ => by cases r; exact ⟨_, rfl, .int i, rfl, rfl⟩
  | .str x, _, r, h => by
    cases r
    have h' : PyData.strOk x = true := h
    exact ⟨_, by show (if PyData.strOk x = true then some (PyData.str x) else none) = _; rw [if_pos h'], .str x, by simp [PyData.canLay0, h'], by simp [PyData.depth, D.dep]⟩
  | .tup ds, _, r, h => by
    obtain ⟨a, vs, rfl, ha, rs⟩ := r.inv_tup
    obtain ⟨ps, h1, h2, h3, h4⟩ := pys_of ds rs h
    exact ⟨.tuple ps, by show (D.pys ds).map PyData.tuple = _; rw [h1]; rfl, .tup ha h2, by simp [PyData.canLay0, h3], by simp [PyData.depth, D.dep, h4]⟩
  | .lst ds, _, r, h => by
    obtain ⟨a, vs, rfl, ha, rs⟩ := r.inv_lst
    obtain ⟨ps, h1, h2, h3, h4⟩ := pys_of ds rs h
    exact ⟨.list ps, by show (D.pys ds).map PyData.list = _; rw [h1]; rfl, .lst ha.seq h2, by simp [PyData.canLay0, h3], by simp [PyData.depth, D.dep, h4]⟩
  | .obj _ _ _, _, _, h => by cases h
  | .scr _, _, _, h => by cases h
theorem pys_of {K : PySem.W.Frag} {H : Hp} : ∀ (ds : List D) {vs : List V}, VRs K H ds vs → D.fins ds = true → ∃ ps, D.pys ds = some ps ∧ DpAll K H vs ps ∧ PyData.canLayAll0 ps = true ∧ PyData.depthAll ps = D.deps ds
  | [], _, r, _ => by cases r; exact ⟨[], rfl, .nil, rfl, rfl⟩
  | d :: ds, _, r, h => by
    cases r with
    | cons r1 r2 =>
      obtain ⟨h1, h2⟩ := Bool.and_eq_true_iff.mp (show (D.fin d && D.fins ds) = true from h)
      obtain ⟨p, p1, p2, p3, p4⟩ := py_of d r1 h1
      obtain ⟨ps, q1, q2, q3, q4⟩ := pys_of ds r2 h2
      exact ⟨p :: ps, by simp only [D.pys, p1, q1], .cons p2 q2, by simp [PyData.canLayAll0, p3, q3], by simp [PyData.depthAll, D.deps, p4, q4]⟩
end
mutual
theorem eqv_of : ∀ (d e : D) {p q : PyData}, D.py d = some p → D.py e = some q → PyData.eqv p q = D.eq d e
  | .non, e, p, q, h, h2 => by
    cases h
    cases e <;> simp only [D.py, reduceCtorEq, Option.some.injEq, Option.map_eq_some_iff, Option.ite_none_right_eq_some] at h2 <;> first
      | (subst h2; rfl)
      | (obtain ⟨_, h2⟩ := h2; subst h2; rfl)
      | (obtain ⟨_, _, h2⟩ := h2; subst h2; rfl)
  | .bl b, e, p, q, h, h2 => by
    cases h
    cases e <;> simp only [D.py, reduceCtorEq, Option.some.injEq, Option.map_eq_some_iff, Option.ite_none_right_eq_some] at h2 <;> first
      | (subst h2; rfl)
      | (obtain ⟨_, h2⟩ := h2; subst h2; rfl)
      | (obtain ⟨_, _, h2⟩ := h2; subst h2; rfl)
  | .int i, e, p, q, h, h2 => by
    cases h
    cases e <;> simp only [D.py, reduceCtorEq, Option.some.injEq, Option.map_eq_some_iff, Option.ite_none_right_eq_some] at h2 <;> first
      | (subst h2; rfl)
      | (obtain ⟨_, h2⟩ := h2; subst h2; rfl)
      | (obtain ⟨_, _, h2⟩ := h2; subst h2; rfl)
  | .str x, e, p, q, h, h2 => by
    simp only [D.py, Option.ite_none_right_eq_some, Option.some.injEq] at h
    obtain ⟨_, h⟩ := h
    subst h
    cases e <;> simp only [D.py, reduceCtorEq, Option.some.injEq, Option.map_eq_some_iff, Option.ite_none_right_eq_some] at h2 <;> first
      | (subst h2; rfl)
      | (obtain ⟨_, h2⟩ := h2; subst h2; rfl)
      | (obtain ⟨_, _, h2⟩ := h2; subst h2; rfl)
  | .tup ds, e, p, q, h, h2 => by
    simp only [D.py, Option.map_eq_some_iff] at h
    obtain ⟨ps, h1, h⟩ := h
    subst h
    cases e with
    | tup es =>
      simp only [D.py, Option.map_eq_some_iff] at h2
      obtain ⟨qs, h3, h2⟩ := h2
      subst h2
      simp only [PyData.eqv, D.eq]
      exact eqvs_of ds es h1 h3
    | _ =>
      simp only [D.py, reduceCtorEq, Option.some.injEq, Option.map_eq_some_iff, Option.ite_none_right_eq_some] at h2 <;> first
        | (subst h2; rfl)
        | (obtain ⟨_, h2⟩ := h2; subst h2; rfl)
        | (obtain ⟨_, _, h2⟩ := h2; subst h2; rfl)
  | .lst ds, e, p, q, h, h2 => by
    simp only [D.py, Option.map_eq_some_iff] at h
    obtain ⟨ps, h1, h⟩ := h
    subst h
    cases e with
    | lst es =>
      simp only [D.py, Option.map_eq_some_iff] at h2
      obtain ⟨qs, h3, h2⟩ := h2
      subst h2
      simp only [PyData.eqv, D.eq]
      exact eqvs_of ds es h1 h3
    | _ =>
      simp only [D.py, reduceCtorEq, Option.some.injEq, Option.map_eq_some_iff, Option.ite_none_right_eq_some] at h2 <;> first
        | (subst h2; rfl)
        | (obtain ⟨_, h2⟩ := h2; subst h2; rfl)
        | (obtain ⟨_, _, h2⟩ := h2; subst h2; rfl)
  | .obj _ _ _, _, _, _, h, _ => by cases h
  | .scr _, _, _, _, h, _ => by cases h
theorem eqvs_of : ∀ (ds es : List D) {ps qs : List PyData}, D.pys ds = some ps → D.pys es = some qs → PyData.eqvAll ps qs = D.eqs ds es
  | [], [], _, _, h, h2 => by cases h; cases h2; rfl
  | [], e :: es, _, qs, h, h2 => by
    cases h
    simp only [D.pys] at h2
    split at h2 <;> cases h2 <;> rfl
  | d :: ds, [], ps, _, h, h2 => by
    cases h2
    simp only [D.pys] at h
    split at h <;> cases h <;> rfl
  | d :: ds, e :: es, ps, qs, h, h2 => by
    simp only [D.pys] at h h2
    split at h
    · rename_i p ps' h1 h3
      cases h
      split at h2
      · rename_i q qs' h4 h5
        cases h2
        simp only [PyData.eqvAll, D.eqs]
        rw [eqv_of d e h1 h4, eqvs_of ds es h3 h5]
      · cases h2
    · cases h
end
theorem shp_of {K : PySem.W.Frag} {H : Hp} {d : D} {v : V} (r : VR K H d v) (h : D.shp d = true) : ∃ p, D.py d = some p ∧ Dp K H v p ∧ SeqAt.shaped p = true := by
  obtain ⟨h1, h2⟩ := Bool.and_eq_true_iff.mp h
  obtain ⟨p, p1, p2, p3, p4⟩ := py_of d r h1
  refine ⟨p, p1, p2, ?_⟩
  unfold SeqAt.shaped
  rw [p3, p4]
  exact h2
theorem opd_eq (hu : X.A.units + 64 < cLine) : OpD X (compareOp .Eq) opEq := by
  refine OpR.imp (op_eqD hu) fun x y H Q ⟨d, e, z, r1, r2, hz, kd⟩ => ?_
  obtain ⟨hl, hz⟩ := if_some hz
  subst hz
  obtain ⟨h1, h2⟩ := Bool.and_eq_true_iff.mp hl
  obtain ⟨p, p1, p2, p3⟩ := shp_of r1 h1
  obtain ⟨q, q1, q2, q3⟩ := shp_of r2 h2
  exact ⟨p, q, p2, q2, p3, q3, by rw [eqv_of d e p1 q1]; exact kd.same (.bl _)⟩
theorem opd_ne (hu : X.A.units + 64 < cLine) : OpD X (compareOp .NotEq) opNe := by
  refine OpR.imp (op_neD hu) fun x y H Q ⟨d, e, z, r1, r2, hz, kd⟩ => ?_
  obtain ⟨hl, hz⟩ := if_some hz
  subst hz
  obtain ⟨h1, h2⟩ := Bool.and_eq_true_iff.mp hl
  obtain ⟨p, p1, p2, p3⟩ := shp_of r1 h1
  obtain ⟨q, q1, q2, q3⟩ := shp_of r2 h2
  exact ⟨p, q, p2, q2, p3, q3, by rw [eqv_of d e p1 q1]; exact kd.same (.bl _)⟩
/-! in, not in -/
def rInG (K : PySem.W.Frag) (neg : Bool) : R2 := fun x y H Q => ∃ d ds, Dp K H x d ∧ (Dp K H y (.list ds) ∨ Dp K H y (.tuple ds)) ∧ SeqAt.shaped d = true ∧ PyData.canLayAll0 ds = true ∧ Q (.bl (if neg then !ds.any fun z => PyData.eqv z d else ds.any fun z => PyData.eqv z d)) H
theorem op_inG (hu : X.A.units + 65 < cLine) : OpR X (compareOp .In) (rInG X.K false) := by
  intro pins s σ H x y v u Q I rx ry h
  obtain ⟨d, ds, hd, he, sd, se, q⟩ := h
  obtain ⟨as, r1⟩ := Dp.reads I d x v hd rx
  rcases he with he | he
  · obtain ⟨bs, r2⟩ := Dp.reads I (.list ds) y u he ry
    exact SeqAt.in_list_reads r2 r1 se (SeqAt.canLay_of_shaped sd) (room_in_shaped sd hu) ⟨.bl _, H, I, rfl, q⟩
  · obtain ⟨bs, r2⟩ := Dp.reads I (.tuple ds) y u he ry
    exact SeqAt.in_tuple_reads r2 r1 se (SeqAt.canLay_of_shaped sd) (room_in_shaped sd hu) ⟨.bl _, H, I, rfl, q⟩
theorem op_notInG (hu : X.A.units + 65 < cLine) : OpR X (compareOp .NotIn) (rInG X.K true) := by
  intro pins s σ H x y v u Q I rx ry h
  obtain ⟨d, ds, hd, he, sd, se, q⟩ := h
  obtain ⟨as, r1⟩ := Dp.reads I d x v hd rx
  rcases he with he | he
  · obtain ⟨bs, r2⟩ := Dp.reads I (.list ds) y u he ry
    exact SeqAt.notIn_list_reads r2 r1 se (SeqAt.canLay_of_shaped sd) (room_in_shaped sd hu) ⟨.bl _, H, I, rfl, q⟩
  · obtain ⟨bs, r2⟩ := Dp.reads I (.tuple ds) y u he ry
    exact SeqAt.notIn_tuple_reads r2 r1 se (SeqAt.canLay_of_shaped sd) (room_in_shaped sd hu) ⟨.bl _, H, I, rfl, q⟩
theorem anys_of {d : D} {p : PyData} (hd : D.py d = some p) : ∀ {es : List D} {ps : List PyData}, D.pys es = some ps → (ps.any fun z => PyData.eqv z p) = es.any fun z => D.eq z d
  | [], _, h => by cases h; rfl
  | e :: es, ps, h => by
    simp only [D.pys] at h
    split at h
    · rename_i q qs h1 h2
      cases h
      rw [List.any_cons, List.any_cons, eqv_of e d h1 hd, anys_of hd h2]
    · cases h
theorem in_reads {K : PySem.W.Frag} {H : Hp} {d e : D} {x y : V} {ys : List D} (r1 : VR K H d x) (r2 : VR K H e y) (hi : items? e = some ys) (h1 : D.shp d = true) (h2 : D.shp e = true) :
    ∃ p ps, Dp K H x p ∧ (Dp K H y (.list ps) ∨ Dp K H y (.tuple ps)) ∧ SeqAt.shaped p = true ∧ PyData.canLayAll0 ps = true ∧ (ps.any fun z => PyData.eqv z p) = ys.any fun z => D.eq z d := by
  obtain ⟨p, p1, p2, p3⟩ := shp_of r1 h1
  obtain ⟨q, q1, q2, q3⟩ := shp_of r2 h2
  have cl := SeqAt.canLay_of_shaped q3
  cases e with
  | tup es =>
    cases hi
    simp only [D.py, Option.map_eq_some_iff] at q1
    obtain ⟨ps, h3, h4⟩ := q1
    subst h4
    exact ⟨p, ps, p2, .inr q2, p3, by simpa [PyData.canLay0] using cl, anys_of p1 h3⟩
  | lst es =>
    cases hi
    simp only [D.py, Option.map_eq_some_iff] at q1
    obtain ⟨ps, h3, h4⟩ := q1
    subst h4
    exact ⟨p, ps, p2, .inl q2, p3, by simpa [PyData.canLay0] using cl, anys_of p1 h3⟩
  | _ => cases hi
theorem opd_in (hu : X.A.units + 65 < cLine) : OpD X (compareOp .In) opIn := by
  refine OpR.imp (op_inG hu) fun x y H Q ⟨d, e, z, r1, r2, hz, kd⟩ => ?_
  unfold opIn at hz
  cases hi : items? e with
  | none => rw [hi] at hz; cases hz
  | some ys =>
    rw [hi] at hz
    obtain ⟨hl, hz⟩ := if_some hz
    subst hz
    obtain ⟨h1, h2⟩ := Bool.and_eq_true_iff.mp hl
    obtain ⟨p, ps, a1, a2, a3, a4, a5⟩ := in_reads r1 r2 hi h1 h2
    exact ⟨p, ps, a1, a2, a3, a4, by rw [if_neg Bool.false_ne_true, a5]; exact kd.same (.bl _)⟩
theorem opd_notIn (hu : X.A.units + 65 < cLine) : OpD X (compareOp .NotIn) opNotIn := by
  refine OpR.imp (op_notInG hu) fun x y H Q ⟨d, e, z, r1, r2, hz, kd⟩ => ?_
  unfold opNotIn at hz
  cases hi : items? e with
  | none => rw [hi] at hz; cases hz
  | some ys =>
    rw [hi] at hz
    obtain ⟨hl, hz⟩ := if_some hz
    subst hz
    obtain ⟨h1, h2⟩ := Bool.and_eq_true_iff.mp hl
    obtain ⟨p, ps, a1, a2, a3, a4, a5⟩ := in_reads r1 r2 hi h1 h2
    exact ⟨p, ps, a1, a2, a3, a4, by rw [if_pos rfl, a5]; exact kd.same (.bl _)⟩

/-! ### items -/
theorem IxR.imp {r r' : R2} (h : IxR X r) (i : ∀ x y H Q, r' x y H Q → r x y H Q) : IxR X r' :=
  fun value slice pins s σ H x y v u Q I rx ry q hs => h value slice pins s σ H x y v u Q I rx ry (i x y H Q q) hs
def rOpD (K : PySem.W.Frag) (op : D → D → Option D) : R2 := fun x y H Q => ∃ d e z, VR K H d x ∧ VR K H e y ∧ op d e = some z ∧ KD K H z Q
theorem atL_get {K : PySem.W.Frag} {H : Hp} {ds : List D} {vs : List V} {i : Int} {z : D} (r : VRs K H ds vs) (h : atL ds i = some z) : ∃ v, atI vs i = some v ∧ VR K H z v := by
  unfold atL at h
  cases e : ixOf ds.length i with
  | none => rw [e] at h; cases h
  | some j =>
    rw [e] at h
    obtain ⟨v, h1, h2⟩ := r.get h
    refine ⟨v, ?_, h2⟩
    unfold atI
    rw [← r.length, show ixN ds.length i = some j from e]
    exact h1
theorem vrs_ints {K : PySem.W.Frag} {H : Hp} : ∀ ns : List Int, VRs K H (ns.map D.int) (ns.map V.int)
  | [] => .nil
  | n :: ns => .cons (.int n) (vrs_ints ns)
theorem ixd : IxR X (rOpD X.K opIx) := by
  refine IxR.imp (IxR.or ix_list ix_tup) fun x y H Q ⟨d, e, z, r1, r2, hz, kd⟩ => ?_
  cases d with
  | tup ds =>
    cases e with
    | int i =>
      obtain ⟨a, vs, rfl, ha, ra⟩ := r1.inv_tup
      cases r2
      obtain ⟨v, h1, h2⟩ := atL_get ra hz
      exact .inr ⟨a, vs, i, v, rfl, rfl, ha, h1, kd.same h2⟩
    | _ => cases hz
  | lst ds =>
    cases e with
    | int i =>
      obtain ⟨a, vs, rfl, ha, ra⟩ := r1.inv_lst
      cases r2
      obtain ⟨v, h1, h2⟩ := atL_get ra hz
      exact .inl ⟨a, vs, i, v, rfl, rfl, ha.seq, h1, kd.same h2⟩
    | _ => cases hz
  | scr ns =>
    cases e with
    | int i =>
      cases r1 with
      | scr ha =>
        cases r2
        obtain ⟨v, h1, h2⟩ := atL_get (vrs_ints (K := X.K) (H := H) ns) hz
        exact .inl ⟨_, _, i, v, rfl, rfl, ha.seq, h1, kd.same h2⟩
    | _ => cases hz
  | _ => cases hz
variable {pl : List Nat} {W : WX} {a b e : Expr} {es : List Expr} {fa fb : RE} {fs : RM} {pos : Pos}
theorem de_ix (ha : DE X pl W a fa) (hb : DE X pl W b fb) (hs : PlainIx b) : DE X pl W (.Subscript a b pos) (e2 opIx fa fb) :=
  ⟨pe_imp (pe_ix ixd ha.h hb.h hs) e2_reads⟩

/-! ### slices -/
abbrev tDo (K : PySem.W.Frag) (pl : List Nat) (W : WX) (f : Env → Res (Option Int)) : TO := tOfG (fun _ a b => a = b) K pl W f
structure DO (X : Cx) (pl : List Nat) (W : WX) (e : Option Expr) (f : Env → Res (Option Int)) : Prop where
  h : PO X e (tDo X.K pl W f)
theorem po_imp {e : Option Expr} {t t' : TO} (h : PO X e t) (i : ∀ σ H Q, t' σ H Q → t σ H Q) : PO X e t' := ⟨fun pins s σ H Q I hw => h.run pins s σ H Q I (i σ H Q hw)⟩
theorem do_none : DO X pl W none eNoPart := ⟨po_imp po_none fun σ H Q ⟨ρ, hE, hP⟩ => hP none H hE .refl rfl⟩
theorem do_some (h : DE X pl W e fa) : DO X pl W (some e) (ePart fa) := by
  refine ⟨po_imp (po_some h.h) fun σ H Q ⟨ρ, hE, hP⟩ => ?_⟩
  refine bindG hE hP fun x ρ1 y H1 E1 X1 r1 hP1 => ?_
  cases x with
  | int i => exact ⟨i, r1.inv_int, hP1 _ H1 E1 .refl rfl⟩
  | _ => exact hP1.elim
def rSlD (K : PySem.W.Frag) : V → Option Int → Option Int → Hp → VK → Prop := fun x lo hi H Q => ∃ d z, VR K H d x ∧ opCut lo hi d = some z ∧ KD K H z Q
theorem SlR.frz {r : V → Option Int → Option Int → Hp → VK → Prop} (h : SlR X r) : SlR X (fun x lo hi H Q => r x lo hi H (FrzQ Q)) := by
  intro pins s σ H x v vl vu lo hi sl Q I rx hs pl pu q
  obtain ⟨T, id, h1, h2, h3⟩ := h pins s σ H x v vl vu lo hi sl (FrzQ Q) I rx hs pl pu q
  exact ⟨T, id, h1, h2, thn h3 fun w s1 q1 => EP_freeze q1⟩
theorem SlR.imp {r r' : V → Option Int → Option Int → Hp → VK → Prop} (h : SlR X r) (i : ∀ x lo hi H Q, r' x lo hi H Q → r x lo hi H Q) : SlR X r' :=
  fun pins s σ H x v vl vu lo hi sl Q I rx hs pl pu q => h pins s σ H x v vl vu lo hi sl Q I rx hs pl pu (i x lo hi H Q q)
theorem cut_rel {K : PySem.W.Frag} {H : Hp} {ds : List D} {vs : List V} (r : VRs K H ds vs) (lo hi : Option Int) : VRs K H (cutL ds lo hi) (cutV vs lo hi) := by
  unfold cutL cutV
  rw [r.length]
  exact (r.drop _).take _
theorem cut_whole {ds : List D} {lo hi : Option Int} (h : HT.sIx ds.length 0 lo = 0 ∧ HT.sIx ds.length ds.length hi = ds.length) : cutL ds lo hi = ds := by
  obtain ⟨h1, h2⟩ := h
  unfold cutL
  rw [show endOf ds.length 0 lo = 0 from h1, show endOf ds.length ds.length hi = ds.length from h2, List.drop_zero, Nat.sub_zero, List.take_length]
theorem sld : SlR X (rSlD X.K) := by
  refine SlR.imp (SlR.frz (SlR.or sl_list sl_tupA)) fun x lo hi H Q ⟨d, z, r1, hz, kd⟩ => ?_
  cases d with
  | tup ds =>
    cases hz
    obtain ⟨a, vs, rfl, ha, ra⟩ := r1.inv_tup
    refine .inr ⟨a, vs, rfl, ha, fun h => ?_, fun h p hp => .inl (KD.tuple kd (cut_rel ra lo hi) hp)⟩
    rw [← ra.length] at h
    rw [cut_whole h] at kd
    exact .inl (kd.same (.tup ha ra))
  | lst ds =>
    cases hz
    obtain ⟨a, vs, rfl, ha, ra⟩ := r1.inv_lst
    exact .inl ⟨a, vs, rfl, ha.seq, fun p hp => KD.list kd (cut_rel ra lo hi) hp⟩
  | scr ns =>
    cases hz
    cases r1 with
    | scr ha => exact .inl ⟨_, _, rfl, ha.seq, fun p hp => KD.list kd (cut_rel (vrs_ints ns) lo hi) hp⟩
  | _ => cases hz
theorem de_cut {lo hi : Option Expr} {p2 : Pos} {fl fh : Env → Res (Option Int)} (ha : DE X pl W a fa) (hl : DO X pl W lo fl) (hh : DO X pl W hi fh) : DE X pl W (.Subscript a (.Slice lo hi none p2) pos) (eCut fa fl fh) := by
  refine ⟨pe_imp (pe_slice sld ha.h hl.h hh.h) fun σ H Q ⟨ρ, hE, hP⟩ => ?_⟩
  refine bindG hE hP fun x ρ1 y H1 E1 X1 r1 hP1 => ?_
  refine bindG E1 hP1 fun l ρ2 l' H2 E2 X2 r2 hP2 => ?_
  refine bindG E2 hP2 fun h ρ3 h' H3 E3 X3 r3 hP3 => ?_
  cases r2
  cases r3
  obtain ⟨z, hz, kd⟩ := kd_of E3 hP3
  exact ⟨x, z, (r1.ext X2).ext X3, hz, kd⟩

/-! ### built-ins -/
def CallD (X : Cx) (f : Value) (op : List D → Option D) : Prop :=
  CallR X f (fun xs H Q => ∃ ds z, VRs X.K H ds xs ∧ op ds = some z ∧ KD X.K H z Q)
theorem CallR.frz {f : Value} {r : List V → Hp → VK → Prop} (h : CallR X f r) : CallR X f (fun xs H Q => r xs H (FrzQ Q)) :=
  fun pins s σ H xs us Q I rs q => thn (h pins s σ H xs us (FrzQ Q) I rs q) fun w s1 q1 => EP_freeze q1
theorem CallR.imp {f : Value} {r r' : List V → Hp → VK → Prop} (h : CallR X f r) (i : ∀ xs H Q, r' xs H Q → r xs H Q) : CallR X f r' :=
  fun pins s σ H xs us Q I rs q => h pins s σ H xs us Q I rs (i xs H Q q)
theorem eB_reads {op : List D → Option D} : ∀ σ H Q, tD X.K pl W (eB op fs) σ H Q → tCB (fun xs H Q => ∃ ds z, VRs X.K H ds xs ∧ op ds = some z ∧ KD X.K H z Q) (tDs X.K pl W fs) σ H Q := by
  rintro σ H Q ⟨ρ, hE, hP⟩
  refine bindG hE hP fun x ρ1 y H1 E1 X1 r1 hP1 => ?_
  obtain ⟨z, hz, kd⟩ := kd_of E1 hP1
  exact ⟨x, z, r1, hz, kd⟩
theorem cd_tuple : CallD X (.type "tuple") bTuple := by
  refine CallR.imp (CallR.frz call_tuple_of) fun xs H Q ⟨ds, z, rs, hz, kd⟩ => ?_
  unfold bTuple at hz
  split at hz
  · cases hz
    cases rs with
    | cons r1 r2 =>
      cases r2
      obtain ⟨a, vs, rfl, ha, ra⟩ := r1.inv_lst
      exact ⟨a, vs, rfl, .inl ⟨ha.seq, fun p hp => .inl (KD.tuple kd ra hp)⟩⟩
  · cases hz
    cases rs with
    | cons r1 r2 =>
      cases r2
      obtain ⟨a, vs, rfl, ha, ra⟩ := r1.inv_tup
      exact ⟨a, vs, rfl, .inr ⟨ha, .inl (kd.same (.tup ha ra))⟩⟩
  · cases hz
theorem cd_list : CallD X (.type "list") bList := by
  refine CallR.imp (CallR.frz call_list_of) fun xs H Q ⟨ds, z, rs, hz, kd⟩ => ?_
  unfold bList at hz
  split at hz
  · cases hz
    cases rs with
    | cons r1 r2 =>
      cases r2
      obtain ⟨a, vs, rfl, ha, ra⟩ := r1.inv_lst
      exact ⟨a, vs, rfl, .inl ha.seq, fun p hp => KD.list kd ra hp⟩
  · cases hz
    cases rs with
    | cons r1 r2 =>
      cases r2
      obtain ⟨a, vs, rfl, ha, ra⟩ := r1.inv_tup
      exact ⟨a, vs, rfl, .inr ha, fun p hp => KD.list kd ra hp⟩
  · cases hz
theorem cd_len : CallD X (.builtin "len") bLen := by
  refine CallR.imp call_len fun xs H Q ⟨ds, z, rs, hz, kd⟩ => ?_
  unfold bLen at hz
  split at hz
  · cases hz
    cases rs with
    | cons r1 r2 =>
      cases r2
      obtain ⟨a, vs, rfl, ha, ra⟩ := r1.inv_lst
      exact ⟨_, _, rfl, .inl ⟨vs, ha.seq, rfl⟩, by rw [← ra.length]; exact kd.same (.int _)⟩
  · cases hz
    cases rs with
    | cons r1 r2 =>
      cases r2
      obtain ⟨a, vs, rfl, ha, ra⟩ := r1.inv_tup
      exact ⟨_, _, rfl, .inr ⟨vs, ha, rfl⟩, by rw [← ra.length]; exact kd.same (.int _)⟩
  · cases hz
    cases rs with
    | cons r1 r2 =>
      cases r2
      cases r1 with
      | scr ha => exact ⟨_, _, rfl, .inl ⟨_, ha.seq, rfl⟩, by rw [List.length_map]; exact kd.same (.int _)⟩
  · rename_i x
    obtain ⟨hl, hz⟩ := if_some hz
    subst hz
    cases rs with
    | cons r1 r2 =>
      cases r2
      cases r1
      exact ⟨_, _, rfl, ⟨by rw [← szL_line]; exact hl, rfl⟩, kd.same (.int _)⟩
  · cases hz
theorem cd_int : CallD X (.type "int") bInt := by
  refine CallR.imp call_int1 fun xs H Q ⟨ds, z, rs, hz, kd⟩ => ?_
  unfold bInt at hz
  split at hz
  · cases hz
    cases rs with
    | cons r1 r2 =>
      cases r2
      cases r1
      exact .inl ⟨_, rfl, kd.same (.int _)⟩
  · cases hz
    cases rs with
    | cons r1 r2 =>
      cases r2
      cases r1
      exact .inr ⟨_, rfl, kd.same (.int _)⟩
  · cases hz
theorem cd_abs : CallD X (.builtin "abs") bAbs := by
  refine CallR.imp call_abs fun xs H Q ⟨ds, z, rs, hz, kd⟩ => ?_
  unfold bAbs at hz
  split at hz
  · cases hz
    cases rs with
    | cons r1 r2 =>
      cases r2
      cases r1
      exact ⟨_, rfl, kd.same (.int _)⟩
  · cases hz
theorem ints_rel {K : PySem.W.Frag} {H : Hp} : ∀ {ds : List D} {vs : List V} {ns : List Int}, VRs K H ds vs → ints? ds = some ns → vs = ns.map V.int
  | _, _, _, .nil, h => by cases h; rfl
  | _, _, _, .cons r1 r2, h => by
    cases r1 with
    | int i =>
      obtain ⟨ms, h1, h2⟩ := Option.map_eq_some_iff.mp h
      subst h2
      rw [ints_rel r2 h1]
      rfl
    | _ => cases h
theorem bools_rel {K : PySem.W.Frag} {H : Hp} : ∀ {ds : List D} {vs : List V} {ns : List Bool}, VRs K H ds vs → bools? ds = some ns → vs = ns.map V.bl
  | _, _, _, .nil, h => by cases h; rfl
  | _, _, _, .cons r1 r2, h => by
    cases r1 with
    | bl i =>
      obtain ⟨ms, h1, h2⟩ := Option.map_eq_some_iff.mp h
      subst h2
      rw [bools_rel r2 h1]
      rfl
    | _ => cases h
theorem cd_sum (hc : X.calm = true) : CallD X (.builtin "sum") bSum := by
  refine CallR.imp (cr_sum hc) fun xs H Q ⟨ds, z, rs, hz, kd⟩ => ?_
  unfold bSum at hz
  split at hz
  · obtain ⟨ns, h1, h2⟩ := Option.map_eq_some_iff.mp hz
    subst h2
    cases rs with
    | cons r1 r2 =>
      cases r2
      obtain ⟨a, vs, rfl, ha, ra⟩ := r1.inv_lst
      exact ⟨a, ns, rfl, by rw [← ints_rel ra h1]; exact ha.seq, kd.same (.int _)⟩
  · cases hz
theorem cd_all (hc : X.calm = true) : CallD X (.builtin "all") bAll := by
  refine CallR.imp (cr_all hc) fun xs H Q ⟨ds, z, rs, hz, kd⟩ => ?_
  unfold bAll at hz
  split at hz
  · obtain ⟨ns, h1, h2⟩ := Option.map_eq_some_iff.mp hz
    subst h2
    cases rs with
    | cons r1 r2 =>
      cases r2
      obtain ⟨a, vs, rfl, ha, ra⟩ := r1.inv_lst
      exact ⟨a, ns, rfl, by rw [← bools_rel ra h1]; exact ha.seq, kd.same (.bl _)⟩
  · cases hz
theorem cd_any (hc : X.calm = true) : CallD X (.builtin "any") bAny := by
  refine CallR.imp (cr_any hc) fun xs H Q ⟨ds, z, rs, hz, kd⟩ => ?_
  unfold bAny at hz
  split at hz
  · obtain ⟨ns, h1, h2⟩ := Option.map_eq_some_iff.mp hz
    subst h2
    cases rs with
    | cons r1 r2 =>
      cases r2
      obtain ⟨a, vs, rfl, ha, ra⟩ := r1.inv_lst
      exact ⟨a, ns, rfl, by rw [← bools_rel ra h1]; exact ha.seq, kd.same (.bl _)⟩
  · cases hz
end
end
end DL
/-! DLD: statements, own lists, loops, comprehensions, calls. -/
namespace DL
noncomputable section
open PySem PySem.Spec PyProof.Rows L2

/-! ### statements -/
def PostS (K : PySem.W.Frag) (pl : List Nat) (W : WX) (r : Res Fl) (ρ : Env) (σ : St) (H : Hp) (D : Ends) : Prop := match r with
  | .ok .nx ρ' => ∀ σ' H', EnvR K ρ' σ' H' → Step pl ρ σ H ρ' σ' H' → D.nx σ' H'
  | .ok .bk ρ' => ∀ σ' H', EnvR K ρ' σ' H' → Step pl ρ σ H ρ' σ' H' → D.bk σ' H'
  | .ok .ct ρ' => ∀ σ' H', EnvR K ρ' σ' H' → Step pl ρ σ H ρ' σ' H' → D.ct σ' H'
  | .ok (.rt d) ρ' => ∀ v σ' H', EnvR K ρ' σ' H' → Step pl ρ σ H ρ' σ' H' → VR K H' d v → D.rt v H'
  | .ok (.ro xs) ρ' => ∀ a vs σ' H', EnvR K ρ' σ' H' → Step pl ρ σ H ρ' σ' H' → H' a = some (.lst vs) → VRs K H' xs vs → ¬ Own ρ' σ' a → H a = none → D.rt (.ref a) H'
  | .exc x ρ' => ∀ cls dd σ' H', EnvR K ρ' σ' H' → Step pl ρ σ H ρ' σ' H' → XR K H' x cls dd → W cls dd σ' H'
  | .bad => False
def sOf (K : PySem.W.Frag) (pl : List Nat) (W : WX) (f : RS) : TS := fun D σ H => ∃ ρ, EnvR K ρ σ H ∧ PostS K pl W (f ρ) ρ σ H D
structure DS (X : Cx) (pl : List Nat) (W : WX) (st : Stmt) (f : RS) : Prop where
  h : PS X st (sOf X.K pl W f)
structure DSs (X : Cx) (pl : List Nat) (W : WX) (st : List Stmt) (f : RS) : Prop where
  h : PSs X st (sOf X.K pl W f)
/-- a new list -/
def PostM (K : PySem.W.Frag) (pl : List Nat) (W : WX) (r : Res (List D)) (ρ : Env) (σ : St) (H : Hp) (Q : VK) : Prop := match r with
  | .ok xs ρ' => ∀ a vs H', EnvR K ρ' σ H' → Step pl ρ σ H ρ' σ H' → H' a = some (.lst vs) → VRs K H' xs vs → ¬ Own ρ' σ a → H a = none → Q (.ref a) H'
  | .exc x ρ' => ∀ cls dd H', EnvR K ρ' σ H' → Step pl ρ σ H ρ' σ H' → XR K H' x cls dd → W cls dd σ H'
  | .bad => False
def mOf (K : PySem.W.Frag) (pl : List Nat) (W : WX) (f : RM) : TE := fun σ H Q => ∃ ρ, EnvR K ρ σ H ∧ PostM K pl W (f ρ) ρ σ H Q
structure DM (X : Cx) (pl : List Nat) (W : WX) (e : Expr) (f : RM) : Prop where
  h : PE X e (mOf X.K pl W f)
section
variable {K : PySem.W.Frag} {pl : List Nat} {W : WX} {ρ ρ1 : Env} {σ σ1 : St} {H H1 : Hp} {α β : Type} {R : Hp → α → β → Prop} {D : Ends}
theorem Step.fresh {ρ' : Env} {σ' : St} {H' : Hp} (s : Step pl ρ σ H ρ' σ' H') {a : Addr} (h : H' a = none) : H a = none := by
  cases q : H a with
  | none => rfl
  | some o => exact absurd h (s.trk a (by rw [q]; simp))
theorem PostS.trans {r : Res Fl} (s : Step pl ρ σ H ρ1 σ1 H1) (h : PostS K pl W r ρ σ H D) : PostS K pl W r ρ1 σ1 H1 D := by
  cases r with
  | ok f ρ' =>
    cases f with
    | nx => exact fun σ' H' e st => h σ' H' e (s.trans st)
    | bk => exact fun σ' H' e st => h σ' H' e (s.trans st)
    | ct => exact fun σ' H' e st => h σ' H' e (s.trans st)
    | rt d => exact fun v σ' H' e st r => h v σ' H' e (s.trans st) r
    | ro xs => exact fun a vs σ' H' e st h1 h2 h3 h4 => h a vs σ' H' e (s.trans st) h1 h2 h3 (s.fresh h4)
  | exc x ρ' => exact fun cls dd σ' H' e st rr => h cls dd σ' H' e (s.trans st) rr
  | bad => exact h
theorem PostM.trans {r : Res (List DL.D)} {Q : VK} (s : Step pl ρ σ H ρ1 σ H1) (h : PostM K pl W r ρ σ H Q) : PostM K pl W r ρ1 σ H1 Q := by
  cases r with
  | ok xs ρ' => exact fun a vs H' e st h1 h2 h3 h4 => h a vs H' e (s.trans st) h1 h2 h3 (s.fresh h4)
  | exc x ρ' => exact fun cls dd H' e st rr => h cls dd H' e (s.trans st) rr
  | bad => exact h
theorem bindS {f : Env → Res α} {k : α → Env → Res Fl} {Q1 : β → Hp → Prop} (hE : EnvR K ρ σ H) (hP : PostS K pl W ((f ρ).bind k) ρ σ H D)
    (hk : ∀ a ρ1 b H1, EnvR K ρ1 σ H1 → Ext H H1 → R H1 a b → PostS K pl W (k a ρ1) ρ1 σ H1 D → Q1 b H1) : tOfG R K pl W f σ H Q1 := by
  refine ⟨ρ, hE, ?_⟩
  cases h : f ρ with
  | ok a ρ1 =>
    rw [h] at hP
    exact fun b H1 e1 s1 r1 => hk a ρ1 b H1 e1 (s1.ext hE) r1 (PostS.trans (r := k a ρ1) s1 hP)
  | exc x ρ1 =>
    rw [h] at hP
    exact fun cls dd H' e st rr => hP cls dd σ H' e st rr
  | bad =>
    rw [h] at hP
    exact hP
theorem bindM {f : Env → Res α} {k : α → Env → Res (List DL.D)} {Q1 : β → Hp → Prop} {Q2 : VK} (hE : EnvR K ρ σ H) (hP : PostM K pl W ((f ρ).bind k) ρ σ H Q2)
    (hk : ∀ a ρ1 b H1, EnvR K ρ1 σ H1 → Step pl ρ σ H ρ1 σ H1 → R H1 a b → PostM K pl W (k a ρ1) ρ1 σ H1 Q2 → Q1 b H1) : tOfG R K pl W f σ H Q1 := by
  refine ⟨ρ, hE, ?_⟩
  cases h : f ρ with
  | ok a ρ1 =>
    rw [h] at hP
    exact fun b H1 e1 s1 r1 => hk a ρ1 b H1 e1 s1 r1 (PostM.trans (r := k a ρ1) s1 hP)
  | exc x ρ1 =>
    rw [h] at hP
    exact hP
  | bad =>
    rw [h] at hP
    exact hP
/-- from a statement: a new list is made, then k -/
theorem bindSM {f : RM} {k : List DL.D → Env → Res Fl} {Q1 : VK} (hE : EnvR K ρ σ H) (hP : PostS K pl W ((f ρ).bind k) ρ σ H D)
    (hk : ∀ xs ρ1 a vs H1, EnvR K ρ1 σ H1 → Step pl ρ σ H ρ1 σ H1 → H1 a = some (.lst vs) → VRs K H1 xs vs → ¬ Own ρ1 σ a → H a = none → PostS K pl W (k xs ρ1) ρ σ H D → Q1 (.ref a) H1) : mOf K pl W f σ H Q1 := by
  refine ⟨ρ, hE, ?_⟩
  cases h : f ρ with
  | ok xs ρ1 =>
    rw [h] at hP
    exact fun a vs H1 e1 s1 h1 h2 h3 h4 => hk xs ρ1 a vs H1 e1 s1 h1 h2 h3 h4 hP
  | exc x ρ1 =>
    rw [h] at hP
    exact fun cls dd H' e st rr => hP cls dd σ H' e st rr
  | bad =>
    rw [h] at hP
    exact hP
theorem get_set {α : Type} {l : List α} {i j : Nat} {x : α} : (l.set i x)[j]? = if i = j ∧ j < l.length then some x else l[j]? := by
  by_cases h : i = j
  · subst h
    by_cases hl : i < l.length
    · rw [List.getElem?_set_self hl, if_pos ⟨rfl, hl⟩]
    · rw [if_neg (fun z => hl z.2), List.getElem?_eq_none (by simpa using hl), List.getElem?_eq_none (by simpa using hl)]
  · rw [List.getElem?_set_ne h, if_neg (fun z => h z.1)]
/-- a slot is bound -/
theorem EnvR.setV {i : Nat} {d : DL.D} {v : V} (e : EnvR K ρ σ H) (r : VR K H d v) : EnvR K (ρ.set i (.v d)) (σ.set i (some v)) H := by
  refine ⟨by rw [List.length_set, List.length_set]; exact e.len, fun j d' hj => ?_, fun j xs hj => ?_, fun j k xs ys a h1 h2 h3 h4 => ?_⟩
  · rw [get_set] at hj ⊢
    by_cases h : i = j ∧ j < ρ.length
    · rw [if_pos h] at hj
      rw [if_pos ⟨h.1, by rw [← e.len]; exact h.2⟩]
      cases hj
      exact ⟨v, rfl, r⟩
    · rw [if_neg h] at hj
      rw [if_neg (by rw [← e.len]; exact h)]
      exact e.val j d' hj
  · rw [get_set] at hj ⊢
    by_cases h : i = j ∧ j < ρ.length
    · rw [if_pos h] at hj; cases hj
    · rw [if_neg h] at hj
      rw [if_neg (by rw [← e.len]; exact h)]
      exact e.own j xs hj
  · rw [get_set] at h1 h2 h3 h4
    by_cases hj : i = j ∧ j < ρ.length
    · rw [if_pos hj] at h1; cases h1
    · by_cases hk : i = k ∧ k < ρ.length
      · rw [if_pos hk] at h2; cases h2
      · rw [if_neg hj] at h1
        rw [if_neg hk] at h2
        rw [if_neg (by rw [← e.len]; exact hj)] at h3
        rw [if_neg (by rw [← e.len]; exact hk)] at h4
        exact e.dist j k xs ys a h1 h2 h3 h4
theorem set_prot {i : Nat} {x : Option V} (hi : i ∉ pl) : ∀ j ∈ pl, (σ.set i x)[j]? = σ[j]? := fun j hj => by
  rw [List.getElem?_set_ne (fun z => hi (by rw [z]; exact hj))]
theorem own_setV {i : Nat} {d : DL.D} {v : V} (e : ρ.length = σ.length) {a : Addr} (h : Own (ρ.set i (.v d)) (σ.set i (some v)) a) : Own ρ σ a := by
  obtain ⟨j, xs, h1, h2⟩ := h
  rw [get_set] at h1 h2
  by_cases hj : i = j ∧ j < ρ.length
  · rw [if_pos hj] at h1; cases h1
  · rw [if_neg hj] at h1
    rw [if_neg (by rw [← e]; exact hj)] at h2
    exact ⟨j, xs, h1, h2⟩
theorem Step.setV {i : Nat} {d : DL.D} {v : V} (e : EnvR K ρ σ H) (hi : i ∉ pl) : Step pl ρ σ H (ρ.set i (.v d)) (σ.set i (some v)) H :=
  ⟨fun _ _ h _ => h, fun _ h => h, fun a h => .inl (own_setV e.len h), set_prot hi⟩
/-- a slot gets a new list of its own -/
theorem EnvR.setO {i : Nat} {xs : List DL.D} {a : Addr} {vs : List V} (e : EnvR K ρ σ H) (h : H a = some (.lst vs)) (r : VRs K H xs vs) (n : ¬ Own ρ σ a) : EnvR K (ρ.set i (.o xs)) (σ.set i (some (.ref a))) H := by
  refine ⟨by rw [List.length_set, List.length_set]; exact e.len, fun j d' hj => ?_, fun j ys hj => ?_, fun j k ys zs b h1 h2 h3 h4 => ?_⟩
  · rw [get_set] at hj ⊢
    by_cases hh : i = j ∧ j < ρ.length
    · rw [if_pos hh] at hj; cases hj
    · rw [if_neg hh] at hj
      rw [if_neg (by rw [← e.len]; exact hh)]
      exact e.val j d' hj
  · rw [get_set] at hj ⊢
    by_cases hh : i = j ∧ j < ρ.length
    · rw [if_pos hh] at hj
      rw [if_pos ⟨hh.1, by rw [← e.len]; exact hh.2⟩]
      cases hj
      exact ⟨a, vs, rfl, h, r⟩
    · rw [if_neg hh] at hj
      rw [if_neg (by rw [← e.len]; exact hh)]
      exact e.own j ys hj
  · rw [get_set] at h1 h2 h3 h4
    by_cases hj : i = j ∧ j < ρ.length
    · by_cases hk : i = k ∧ k < ρ.length
      · exact hj.1.symm.trans hk.1
      · rw [if_pos ⟨hj.1, by rw [← e.len]; exact hj.2⟩] at h3
        cases h3
        rw [if_neg hk] at h2
        rw [if_neg (by rw [← e.len]; exact hk)] at h4
        exact absurd ⟨k, zs, h2, h4⟩ n
    · by_cases hk : i = k ∧ k < ρ.length
      · rw [if_pos ⟨hk.1, by rw [← e.len]; exact hk.2⟩] at h4
        cases h4
        rw [if_neg hj] at h1
        rw [if_neg (by rw [← e.len]; exact hj)] at h3
        exact absurd ⟨j, ys, h1, h3⟩ n
      · rw [if_neg hj] at h1
        rw [if_neg hk] at h2
        rw [if_neg (by rw [← e.len]; exact hj)] at h3
        rw [if_neg (by rw [← e.len]; exact hk)] at h4
        exact e.dist j k ys zs b h1 h2 h3 h4
theorem own_setO {i : Nat} {xs : List DL.D} {a b : Addr} (e : ρ.length = σ.length) (h : Own (ρ.set i (.o xs)) (σ.set i (some (.ref a))) b) : Own ρ σ b ∨ b = a := by
  obtain ⟨j, ys, h1, h2⟩ := h
  rw [get_set] at h1 h2
  by_cases hj : i = j ∧ j < ρ.length
  · rw [if_pos ⟨hj.1, by rw [← e]; exact hj.2⟩] at h2
    cases h2
    exact .inr rfl
  · rw [if_neg hj] at h1
    rw [if_neg (by rw [← e]; exact hj)] at h2
    exact .inl ⟨j, ys, h1, h2⟩
/-- a new list that no slot has: made to stand still -/
theorem EnvR.frzNew {a : Addr} {vs : List V} {o : Obj} (e : EnvR K ρ σ H) (h : H a = some (.lst vs)) (n : ¬ Own ρ σ a) : EnvR K ρ σ (upd H a (.frz o (.lst vs))) ∧ Ext H (upd H a (.frz o (.lst vs))) := by
  have no : ∀ {b u}, H b = some u → (∀ vs, u ≠ .lst vs) → upd H a (.frz o (.lst vs)) b = some u := fun {b u} q nu => by
    rw [upd_ne (fun z => by subst z; rw [h] at q; exact nu _ (Option.some.inj q).symm)]; exact q
  have x : Ext H (upd H a (.frz o (.lst vs))) := ⟨fun b xs h => no h fun vs z => (by cases z), fun b o u h => no h fun vs z => (by cases z), fun b C dx fs h => no h fun vs z => (by cases z)⟩
  refine ⟨⟨e.len, fun i d hi => let ⟨v, h1, h2⟩ := e.val i d hi; ⟨v, h1, h2.ext x⟩, fun i xs hi => ?_, e.dist⟩, x⟩
  obtain ⟨b, ws, h1, h2, h3⟩ := e.own i xs hi
  exact ⟨b, ws, h1, by rw [upd_ne (fun z => n ⟨i, xs, hi, by rw [← z]; exact h1⟩)]; exact h2, h3.ext x⟩
theorem Step.frzNew {ρ' : Env} {σ' : St} {H' : Hp} {a : Addr} {o : HO} (s : Step pl ρ σ H ρ' σ' H') (h : H a = none) : Step pl ρ σ H ρ' σ' (upd H' a o) :=
  ⟨fun b u q n => by rw [upd_ne (ne_of_none q h)]; exact s.keep b u q n, fun b q => by
    by_cases hb : b = a
    · subst hb; rw [upd_same]; simp
    · rw [upd_ne hb]; exact s.trk b q, s.own, s.prot⟩
end

section
variable {X : Cx} {pl : List Nat} {W : WX} {a b e c : Expr} {es : List Expr} {st : Stmt} {sts : List Stmt} {fa fb : RE} {fs : RM} {s t : RS} {pos : Pos} {i : Nat} {x : Str}
theorem de_m {m : RM} (h : DM X pl W e m) : DE X pl W e (eM m) := by
  refine ⟨pe_imp (pe_frz h.h) fun σ H Q ⟨ρ, hE, hP⟩ => ⟨ρ, hE, ?_⟩⟩
  unfold eM at hP
  cases q : m ρ with
  | ok xs ρ1 =>
    rw [q] at hP
    refine fun p vs H1 e1 s1 h1 h2 h3 h4 => .inr ⟨p, vs, rfl, h1, fun o => ?_⟩
    obtain ⟨g1, g2⟩ := e1.frzNew (o := o) h1 h3
    exact hP _ _ g1 (s1.frzNew h4) (.lst ⟨o, upd_same⟩ (h2.ext g2))
  | exc z ρ1 =>
    rw [q] at hP
    exact hP
  | bad =>
    rw [q] at hP
    exact hP
theorem dm_lst (h : DAs X pl W es fs) : DM X pl W (.List es pos) (mLst fs) := by
  refine ⟨pe_imp (pe_lst h.h) fun σ H Q ⟨ρ, hE, hP⟩ => ?_⟩
  refine bindM hE hP fun xs ρ1 ys H1 E1 S1 r1 hP1 => ?_
  by_cases hl : xs.length ≤ szL
  · rw [if_pos hl] at hP1
    refine ⟨by rw [← r1.length, ← szL_line]; exact hl, fun p hp => ?_⟩
    have kp := upd_keep (o := .lst ys) hp
    exact hP1 p ys _ (E1.heap kp) (Step.heap kp) upd_same (r1.ext (Gr.new hp).ext) (fun z => by
      obtain ⟨vs, q⟩ := E1.ownLst z
      rw [hp] at q; cases q) hp
  · rw [if_neg hl] at hP1
    exact hP1.elim
/-- [..] * n -/
def mRep (m : RM) (b : RE) : RM := fun ρ => (m ρ).bind fun xs ρ => (b ρ).bind fun y ρ => match y with
  | .int k => (match repL xs k with
    | some ys => .ok ys ρ
    | none => .bad)
  | _ => .bad
theorem dm_rep {m : RM} (h : DM X pl W a m) (hb : DE X pl W b fb) : DM X pl W (.BinOp a .Mult b pos) (mRep m fb) := by
  refine ⟨pe_imp (pe_op op_rep h.h hb.h) fun σ H Q ⟨ρ, hE, hP⟩ => ⟨ρ, hE, ?_⟩⟩
  unfold mRep at hP
  cases q : m ρ with
  | ok xs ρ1 =>
    rw [q] at hP
    refine fun p vs H1 e1 s1 h1 h2 h3 h4 => ?_
    have hP' := PostM.trans s1 hP
    refine bindM e1 hP' fun y ρ2 z H2 E2 S2 r2 hP2 => ?_
    cases y with
    | int k =>
      cases r2
      have hp2 : H2 p = some (.lst vs) := S2.keep p _ h1 h3
      cases hr : repL xs k with
      | none =>
        simp only [hr] at hP2
        exact hP2.elim
      | some ys =>
        simp only [hr] at hP2
        obtain ⟨g1, g2, g3, g4⟩ := repL_some hr
        subst g4
        refine ⟨p, k, vs, rfl, rfl, hp2, by rw [two63_eq]; exact g2, by rw [two63_eq]; exact g3, by rw [← h2.length, ← szL_line]; exact g1, fun l hl => ?_⟩
        have kp := upd_keep (o := .lst (List.replicate k.toNat vs).flatten) hl
        exact hP2 l _ _ (E2.heap kp) (Step.heap kp) upd_same (((h2.ext (S2.ext e1)).rep k.toNat).ext (Gr.new hl).ext) (fun z => by
          obtain ⟨vs, q⟩ := E2.ownLst z
          rw [hl] at q; cases q) hl
    | _ => exact hP2.elim
  | exc z ρ1 =>
    rw [q] at hP
    exact hP
  | bad =>
    rw [q] at hP
    exact hP
/-- list(e) -/
def mList (a : RE) : RM := fun ρ => (a ρ).bind fun y ρ => match items? y with
  | some ys => .ok ys ρ
  | none => .bad
theorem dm_list {p : Pos} {x : Str} (hg : Gl X x) (hm : X.mg x = none) (hv : bootBuiltins x = some (.type "list")) (ha : DE X pl W a fa) (hn : x ≠ "__name__") (hdb : (x == ("__debug__" : Str)) = false)
    (he : starEach [a] X.env = (false, eval a X.env) :: starEach [] X.env) : DM X pl W (.Call (.Name x p) [a] [] pos) (mList fa) := by
  refine ⟨pe_imp (pe_callTy call_list_of hg hm hv (pa_cons ha.h pa_nil he) hn hdb he) fun σ H Q ⟨ρ, hE, hP⟩ => ?_⟩
  refine bindM hE hP fun y ρ1 z H1 E1 S1 r1 hP1 => ?_
  have fin : ∀ (q : Addr) (ys : List DL.D) (vs : List V), items? y = some ys → VRs X.K H1 ys vs → H1 q = none → Q (.ref q) (upd H1 q (.lst vs)) := fun q ys vs hi r hq => by
    simp only [hi] at hP1
    have kp := upd_keep (o := .lst vs) hq
    exact hP1 q vs _ (E1.heap kp) (Step.heap kp) upd_same (r.ext (Gr.new hq).ext) (fun z => by
      obtain ⟨vs, q⟩ := E1.ownLst z
      rw [hq] at q; cases q) hq
  cases y with
  | tup ds =>
    obtain ⟨l, vs, rfl, hl, rl⟩ := r1.inv_tup
    exact ⟨l, vs, rfl, .inr hl, fun q hq => fin q ds vs rfl rl hq⟩
  | lst ds =>
    obtain ⟨l, vs, rfl, hl, rl⟩ := r1.inv_lst
    exact ⟨l, vs, rfl, .inl hl.seq, fun q hq => fin q ds vs rfl rl hq⟩
  | _ => exact hP1.elim

/-! ### simple statements -/
theorem dss_nil : DSs X pl W [] sNx := ⟨pss_imp pss_nil fun D σ H ⟨ρ, hE, hP⟩ => hP σ H hE .refl⟩
theorem seq_reads : ∀ D σ H, sOf X.K pl W (sSeq s t) D σ H → tSeq (sOf X.K pl W s) (sOf X.K pl W t) D σ H := by
  rintro D σ H ⟨ρ, hE, hP⟩
  refine ⟨ρ, hE, ?_⟩
  unfold sSeq at hP
  cases q : s ρ with
  | ok f ρ1 =>
    rw [q] at hP
    cases f with
    | nx => exact fun σ' H' e st => ⟨ρ1, e, PostS.trans st hP⟩
    | bk => exact hP
    | ct => exact hP
    | rt d => exact hP
    | ro xs => exact hP
  | exc z ρ1 =>
    rw [q] at hP
    exact hP
  | bad =>
    rw [q] at hP
    exact hP
theorem dss_cons (h1 : DS X pl W st s) (h2 : DSs X pl W sts t) : DSs X pl W (st :: sts) (sSeq s t) := ⟨pss_imp (pss_cons h1.h h2.h) seq_reads⟩
theorem dss_one (h1 : DS X pl W st s) : DSs X pl W [st] s := ⟨pss_one h1.h⟩
theorem ds_ret (h : DE X pl W e fa) : DS X pl W (.Return (some e) pos) (sRet fa) := by
  refine ⟨ps_imp (ps_ret h.h) fun D σ H ⟨ρ, hE, hP⟩ => ?_⟩
  exact bindS hE hP fun d ρ1 v H1 E1 X1 r1 hP1 => hP1 v σ H1 E1 .refl r1
theorem ds_retN : DS X pl W (.Return none pos) sRetN := ⟨ps_imp ps_retN fun D σ H ⟨ρ, hE, hP⟩ => hP .non σ H hE .refl .non⟩
theorem ds_retO {m : RM} (h : DM X pl W e m) : DS X pl W (.Return (some e) pos) (sRetO m) := by
  refine ⟨ps_imp (ps_ret h.h) fun D σ H ⟨ρ, hE, hP⟩ => ?_⟩
  exact bindSM hE hP fun xs ρ1 a vs H1 e1 s1 h1 h2 h3 h4 hP1 => hP1 a vs σ H1 e1 s1 h1 h2 h3 h4
theorem ds_expr (h : DE X pl W e fa) (hs : swapsWith e none pos.line X.env = pure false) : DS X pl W (.Expr e pos) (sDrop fa) := by
  refine ⟨ps_imp (ps_expr h.h hs) fun D σ H ⟨ρ, hE, hP⟩ => ?_⟩
  exact bindS hE hP fun d ρ1 v H1 E1 X1 r1 hP1 => hP1 σ H1 E1 .refl
theorem ds_if {tc : RT} {u v : List Stmt} (hc : DT X pl W c tc) (ha : DSs X pl W u s) (hb : DSs X pl W v t) : DS X pl W (.If c u v pos) (sIf tc s t) := by
  refine ⟨ps_imp (ps_if hc.h ha.h hb.h) fun D σ H ⟨ρ, hE, hP⟩ => ?_⟩
  refine bindS hE hP fun k ρ1 k' H1 E1 X1 r1 hP1 => ?_
  cases r1
  cases k with
  | true => exact iteT ⟨ρ1, E1, hP1⟩
  | false => exact iteF ⟨ρ1, E1, hP1⟩
theorem ds_bk : DS X pl W (.Break pos) sBk := ⟨ps_imp ps_break fun D σ H ⟨ρ, hE, hP⟩ => hP σ H hE .refl⟩
theorem ds_ct : DS X pl W (.Continue pos) sCt := ⟨ps_imp ps_continue fun D σ H ⟨ρ, hE, hP⟩ => hP σ H hE .refl⟩
theorem ds_pass : DS X pl W (.Pass pos) sNx := ⟨ps_imp ps_pass fun D σ H ⟨ρ, hE, hP⟩ => hP σ H hE .refl⟩
theorem ds_no : DS X pl W st sNo := ⟨ps_imp ps_never fun D σ H ⟨ρ, hE, hP⟩ => hP⟩
theorem asg_reads {te : TE} {m : RM} (hi : i ∉ pl) (h : ∀ σ H Q, mOf X.K pl W m σ H Q → te σ H Q) : ∀ D σ H, sOf X.K pl W (sSetO i m) D σ H → tAsg te (gName i) D σ H := by
  rintro D σ H ⟨ρ, hE, hP⟩
  refine h σ H _ (bindSM hE hP fun xs ρ1 a vs H1 e1 s1 h1 h2 h3 h4 hP1 => ?_)
  refine hP1 _ _ (e1.setO h1 h2 h3) ⟨s1.keep, s1.trk, fun b q => ?_, fun j hj => (set_prot hi j hj).trans (s1.prot j hj)⟩
  rcases own_setO e1.len q with z | z
  · exact s1.own b z
  · exact .inr (by rw [z]; exact h4)
theorem asgV_reads (hi : i ∉ pl) : ∀ D σ H, sOf X.K pl W (sSet i fa) D σ H → tAsg (tD X.K pl W fa) (gName i) D σ H := by
  rintro D σ H ⟨ρ, hE, hP⟩
  exact bindS hE hP fun d ρ1 v H1 E1 X1 r1 hP1 => hP1 _ _ (E1.setV r1) (Step.setV E1 hi)
theorem ds_set {p2 : Pos} (hN : X.N.Nodup) (hx : X.N[i]? = some x) (hl : Loc X.env.scope x) (hi : i ∉ pl) (h : DE X pl W e fa) (hs : swapsWith e (some (.Name x p2)) pos.line X.env = pure false)
    (hf : X.fn x = true ∨ X.env.scope.names.lookup x = some .local) : DS X pl W (.Assign [.Name x p2] e pos) (sSet i fa) :=
  ⟨ps_imp (ps_set hN hx hl h.h hs hf) (asgV_reads hi)⟩
theorem ds_setO {p2 : Pos} {m : RM} (hN : X.N.Nodup) (hx : X.N[i]? = some x) (hl : Loc X.env.scope x) (hi : i ∉ pl) (h : DM X pl W e m) (hs : swapsWith e (some (.Name x p2)) pos.line X.env = pure false)
    (hf : X.fn x = true ∨ X.env.scope.names.lookup x = some .local) : DS X pl W (.Assign [.Name x p2] e pos) (sSetO i m) :=
  ⟨ps_imp (ps_set hN hx hl h.h hs hf) (asg_reads hi fun _ _ _ h => h)⟩

/-! ### own lists -/
theorem own_get {ρ : Env} {xs : List DL.D} (h : own? (ρ.getD i .no) = some xs) : ρ[i]? = some (.o xs) := by
  cases q : ρ.getD i .no with
  | no => rw [q] at h; cases h
  | v d => rw [q] at h; cases h
  | o ys =>
    rw [q] at h
    cases h
    exact slot_get q (by simp)
theorem de_oLen {p p2 : Pos} {ln : Str} (hv : PE X (.Name x p2) (tVar i)) (hg : Gl X ln) (hm : X.mg ln = none) (hb : bootBuiltins ln = some (.builtin "len")) (hn : ln ≠ "__name__") (hdb : (ln == ("__debug__" : Str)) = false)
    (he : starEach [.Name x p2] X.env = (false, eval (.Name x p2) X.env) :: starEach [] X.env) : DE X pl W (.Call (.Name ln p) [.Name x p2] [] pos) (oLen i) := by
  refine ⟨pe_imp (pe_callB call_len hg hm hb (pa_cons hv pa_nil he) hn hdb he) fun σ H Q ⟨ρ, hE, hP⟩ => ?_⟩
  unfold oLen at hP
  cases q : own? (ρ.getD i .no) with
  | none => rw [q] at hP; exact hP.elim
  | some xs =>
    rw [q] at hP
    obtain ⟨a, vs, h1, h2, h3⟩ := hE.own i xs (own_get q)
    exact ⟨.ref a, h1, .ref a, vs.length, rfl, .inl ⟨vs, SqL.of h2, rfl⟩, by rw [← h3.length]; exact hP _ H hE .refl (.int _)⟩
theorem isO_get {ρ : Env} (h : isO ρ i = true) : ∃ xs, ρ[i]? = some (.o xs) := by
  unfold isO at h
  cases q : own? (ρ.getD i .no) with
  | none => rw [q] at h; cases h
  | some xs => exact ⟨xs, own_get q⟩
theorem de_oIx {p2 : Pos} (hv : PE X (.Name x p2) (tVar i)) (hb : DE X pl W b fb) (hs : PlainIx b) : DE X pl W (.Subscript (.Name x p2) b pos) (oIx i fb) := by
  refine ⟨pe_imp (pe_ix ix_list hv hb.h hs) fun σ H Q ⟨ρ, hE, hP⟩ => ?_⟩
  unfold oIx at hP
  by_cases h0 : isO ρ i = true
  · rw [if_pos h0] at hP
    obtain ⟨xs0, h0⟩ := isO_get h0
    obtain ⟨p, vs0, g1, g2, g3⟩ := hE.own i xs0 h0
    refine ⟨.ref p, g1, bindG hE hP fun y ρ1 v H1 E1 X1 r1 hP1 => ?_⟩
    cases q : own? (ρ1.getD i .no) with
    | none => rw [q] at hP1; exact hP1.elim
    | some xs =>
      rw [q] at hP1
      obtain ⟨p', vs, h1, h2, h3⟩ := E1.own i xs (own_get q)
      rw [g1] at h1
      cases h1
      cases y with
      | int k =>
        obtain ⟨z, hz, kd⟩ := kd_of E1 hP1
        obtain ⟨w, w1, w2⟩ := atL_get h3 hz
        exact ⟨p, vs, k, w, rfl, r1.inv_int, SqL.of h2, w1, kd.same w2⟩
      | _ => exact hP1.elim
  · rw [if_neg h0] at hP
    exact hP.elim
theorem de_oPop {p2 ap : Pos} (hv : PE X (.Name x p2) (tVar i)) (hbase : attributeBase (.Name x p2) "pop" X.env (eval (.Name x p2) X.env) = eval (.Name x p2) X.env) (hline : (ap.endLine == pos.line) = true) :
    DE X pl W (.Call (.Attribute (.Name x p2) "pop" ap) [] [] pos) (oPop i) := by
  refine ⟨pe_imp (pe_bm0 PySem.F.plainAttrs_list PySem.F.slot_list_pop PySem.F.type_list_pop mt_pop hv hbase hline) fun σ H Q ⟨ρ, hE, hP⟩ => ?_⟩
  unfold oPop at hP
  cases q : (own? (ρ.getD i .no)).bind popL with
  | none => rw [q] at hP; exact hP.elim
  | some z =>
    obtain ⟨y, ys⟩ := z
    rw [q] at hP
    obtain ⟨xs, q1, q2⟩ := Option.bind_eq_some_iff.mp q
    obtain ⟨w, q3, q4⟩ := Option.map_eq_some_iff.mp q2
    cases q4
    have hi := own_get q1
    obtain ⟨p, vs, h1, h2, h3⟩ := hE.own i xs hi
    obtain ⟨v, w1, w2⟩ := h3.get q3
    obtain ⟨g1, g2, g3⟩ := hE.write (pl := pl) hi h1 h2 h3.dropLast
    exact ⟨.ref p, h1, .inl ⟨rfl, vs, SqL.of h2⟩, p, vs, v, rfl, rfl, h2, by rw [← h3.length]; exact w1, hP v _ g1 g2 (w2.ext g3)⟩
theorem de_oPopAt {p2 ap : Pos} (hv : PE X (.Name x p2) (tVar i)) (hb : DE X pl W b fb) (hbase : attributeBase (.Name x p2) "pop" X.env (eval (.Name x p2) X.env) = eval (.Name x p2) X.env) (hline : (ap.endLine == pos.line) = true)
    (hfew : ((backTo pos (starEach [b] X.env)).all (fun x => !x.1) && (backToKw pos (keywordEach [] X.env)).all (fun x => x.1.isSome)
      && decide (([b] : List Expr).length + ([] : List Keyword).length + (if ([] : List Keyword).isEmpty then 0 else 1) < 30)) = true) (hs : starEach [b] X.env = (false, eval b X.env) :: starEach [] X.env) :
    DE X pl W (.Call (.Attribute (.Name x p2) "pop" ap) [b] [] pos) (oPopAt i fb) := by
  refine ⟨pe_imp (pe_bm PySem.F.plainAttrs_list PySem.F.slot_list_pop PySem.F.type_list_pop mt_popAt hv (pa_cons hb.h pa_nil hs) hbase hfew hline hs) fun σ H Q ⟨ρ, hE, hP⟩ => ?_⟩
  unfold oPopAt at hP
  by_cases h0 : isO ρ i = true
  · rw [if_pos h0] at hP
    obtain ⟨xs0, h0⟩ := isO_get h0
    obtain ⟨p, vs0, g1, g2, g3⟩ := hE.own i xs0 h0
    refine ⟨.ref p, g1, .inl ⟨rfl, vs0, SqL.of g2⟩, bindG hE hP fun y ρ1 v H1 E1 X1 r1 hP1 => ?_⟩
    cases q : (own? (ρ1.getD i .no)).bind (fun xs => popAtL xs y) with
    | none => rw [q] at hP1; exact hP1.elim
    | some z =>
      obtain ⟨z, ys⟩ := z
      rw [q] at hP1
      obtain ⟨xs, q1, q2⟩ := Option.bind_eq_some_iff.mp q
      have hi := own_get q1
      obtain ⟨p', vs, h1, h2, h3⟩ := E1.own i xs hi
      rw [g1] at h1
      cases h1
      cases y with
      | int k =>
        obtain ⟨⟨k1, k2⟩, q3⟩ := (show (-two63 ≤ k ∧ k < two63) ∧ ((ixOf xs.length k).bind fun j => (xs[j]?).map fun y => (y, xs.eraseIdx j)) = some (z, ys) from by
          have q2 : (if ok63 k = true then (ixOf xs.length k).bind fun j => (xs[j]?).map fun y => (y, xs.eraseIdx j) else none) = some (z, ys) := q2
          by_cases hk : ok63 k = true
          · rw [if_pos hk] at q2; exact ⟨ok63_ok hk, q2⟩
          · rw [if_neg hk] at q2; cases q2)
        obtain ⟨j, j1, j2⟩ := Option.bind_eq_some_iff.mp q3
        obtain ⟨w, j3, j4⟩ := Option.map_eq_some_iff.mp j2
        cases j4
        obtain ⟨u, u1, u2⟩ := h3.get j3
        obtain ⟨e1, e2, e3⟩ := E1.write (pl := pl) hi g1 h2 (h3.erase j)
        rw [r1.inv_int]
        refine ⟨p, vs, k, j, u, rfl, rfl, h2, by rw [two63_eq]; exact k1, by rw [two63_eq]; exact k2, ?_, u1, hP1 u _ e1 e2 (u2.ext e3)⟩
        have hj : ixN vs.length k = some j := by rw [← h3.length]; exact j1
        exact (ixN_seq hj).1
      | _ => cases q2
  · rw [if_neg h0] at hP
    exact hP.elim
/-- by a method of list -/
def UpOk (X : Cx) (id : String) (op : List DL.D → DL.D → Option (List DL.D)) : Prop := MtR X id (fun v vs H Q => ∃ l ws y xs d ys, v = .ref l ∧ vs = [y] ∧ H l = some (.lst ws) ∧ VRs X.K H xs ws ∧ VR X.K H d y ∧ op xs d = some ys ∧
  ∀ zs, VRs X.K H ys zs → Q .non (upd H l (.lst zs)))
theorem MtR.imp {id : String} {r r' : V → List V → Hp → VK → Prop} (h : MtR X id r) (i : ∀ x xs H Q, r' x xs H Q → r x xs H Q) : MtR X id r' :=
  fun pins s σ H x xs v us Q I rx rs q => h pins s σ H x xs v us Q I rx rs (i x xs H Q q)
theorem up_append : UpOk X "list.append" appL := by
  refine MtR.imp mt_append fun v vs H Q ⟨l, ws, y, xs, d, ys, hv, hvs, hl, r, rd, ho, q⟩ => ?_
  obtain ⟨h1, h2⟩ := if_some ho
  subst h2
  exact ⟨l, ws, y, hv, hvs, hl, by rw [← r.length, ← szL_line]; exact h1, q _ (r.append (.cons rd .nil))⟩
theorem mt_extendF : MtR X "list.extend" (fun x vs H Q => ∃ l b xs zs, x = .ref l ∧ vs = [.ref b] ∧ H l = some (.lst xs) ∧ FzL H b zs ∧ xs.length + zs.length ≤ sizeLine ∧ Q .non (upd H l (.lst (xs ++ zs)))) := by
  intro pins s σ H x vs v us Q I rx rv h
  obtain ⟨l, b, xs, zs, rfl, rfl, hH, hB, hz, q⟩ := h
  cases rx
  obtain ⟨u, rfl, ru⟩ := rv.one
  cases ru
  obtain ⟨z, its, n, r, hl, e⟩ := I.lstM hH
  obtain ⟨z2, its2, n2, r2, hl2, e2⟩ := Inv_rdM I hB
  have hsz : its.toArray.size + its2.toArray.size ≤ sizeLine := by rw [List.size_toArray, List.size_toArray]; omega
  have hlong : ¬ (!its.toArray.isEmpty && Builtin.List.listTooLong (its.toArray.size + its2.toArray.size)) = true := by
    rw [notLongL hsz, Bool.and_false]
    exact Bool.false_ne_true
  refine call_meets PySem.F.slot_list_extend ⟨_, e, rfl⟩ PySem.F.entry_list_extend (PySem.F.args_list_extend_2 _ _)
    (AutoSeq1.list_extend_list_list_0 l its.toArray n b its2.toArray n2 hlong (by rw [List.size_toArray]; omega) (by omega)) ⟨e, e2, ?_⟩
  refine ⟨.non, _, I.lset (its' := its ++ its2) hH e (by simp) (r.append r2) ?_, rfl, q⟩
  rw [List.length_append]
  omega
theorem up_extend : UpOk X "list.extend" extL := by
  refine MtR.imp mt_extendF fun v vs H Q ⟨l, ws, y, xs, d, ys, hv, hvs, hl, r, rd, ho, q⟩ => ?_
  cases d with
  | lst zs =>
    obtain ⟨h1, h2⟩ := if_some ho
    subst h2
    obtain ⟨b, us, rfl, hb, rb⟩ := rd.inv_lst
    exact ⟨l, b, ws, us, hv, hvs, hl, hb, by rw [← r.length, ← rb.length, ← szL_line]; exact h1, q _ (r.append rb)⟩
  | _ => cases ho
theorem ds_oUp {id nm : String} {op : List DL.D → DL.D → Option (List DL.D)} {p2 ap p3 : Pos} (slot : PySem.Slot "list" nm id) (hty : typeOf (.builtin id) = pure (.type "method_descriptor")) (hop : UpOk X id op)
    (hv : PE X (.Name x p2) (tVar i)) (hb : DE X pl W b fb) (hbase : attributeBase (.Name x p2) nm X.env (eval (.Name x p2) X.env) = eval (.Name x p2) X.env) (hline : (ap.endLine == pos.line) = true)
    (hfew : ((backTo pos (starEach [b] X.env)).all (fun x => !x.1) && (backToKw pos (keywordEach [] X.env)).all (fun x => x.1.isSome)
      && decide (([b] : List Expr).length + ([] : List Keyword).length + (if ([] : List Keyword).isEmpty then 0 else 1) < 30)) = true) (hs : starEach [b] X.env = (false, eval b X.env) :: starEach [] X.env)
    (hsw : swapsWith (.Call (.Attribute (.Name x p2) nm ap) [b] [] pos) none p3.line X.env = pure false) :
    DS X pl W (.Expr (.Call (.Attribute (.Name x p2) nm ap) [b] [] pos) p3) (oUp op i fb) := by
  refine ⟨ps_imp (ps_expr (pe_bm PySem.F.plainAttrs_list slot hty hop hv (pa_cons hb.h pa_nil hs) hbase hfew hline hs) hsw) fun D σ H ⟨ρ, hE, hP⟩ => ?_⟩
  unfold oUp at hP
  by_cases h0 : isO ρ i = true
  · rw [if_pos h0] at hP
    obtain ⟨xs0, h0⟩ := isO_get h0
    obtain ⟨p, vs0, g1, g2, g3⟩ := hE.own i xs0 h0
    refine ⟨.ref p, g1, .inl ⟨rfl, vs0, SqL.of g2⟩, bindS hE hP fun y ρ1 v H1 E1 X1 r1 hP1 => ?_⟩
    cases q : (own? (ρ1.getD i .no)).bind (fun xs => op xs y) with
    | none => rw [q] at hP1; exact hP1.elim
    | some ys =>
      rw [q] at hP1
      obtain ⟨xs, q1, q2⟩ := Option.bind_eq_some_iff.mp q
      have hi := own_get q1
      obtain ⟨p', vs, h1, h2, h3⟩ := E1.own i xs hi
      rw [g1] at h1
      cases h1
      refine ⟨p, vs, v, xs, y, ys, rfl, rfl, h2, h3, r1, q2, fun zs rz => ?_⟩
      obtain ⟨e1, e2, e3⟩ := E1.write (pl := pl) hi g1 h2 rz
      exact hP1 σ _ e1 e2
  · rw [if_neg h0] at hP
    exact hP.elim
theorem ds_oSet {p2 p3 : Pos} (hv : PE X (.Name x p2) (tVar i)) (hb : DE X pl W b fb) (ha : DE X pl W a fa)
    (h1 : ∀ v, assign (.Subscript (.Name x p2) b p3) X.env v = (do
      let ov ← holding [v] (eval (.Name x p2) X.env)
      let iv ← holding [v, ov] (eval b X.env)
      standAt p3
      holding [v, ov, iv] (setItem ov iv v)
      release [v, ov, iv] [])) (hs : swapsWithSole [.Subscript (.Name x p2) b p3] a pos.line X.env = pure false) (hw : swappedStores [.Subscript (.Name x p2) b p3] a X.env = pure none)
    (h3 : (assignEach [.Subscript (.Name x p2) b p3] X.env).map (·.2) = [assign (.Subscript (.Name x p2) b p3) X.env]) :
    DS X pl W (.Assign [.Subscript (.Name x p2) b p3] a pos) (oSet i fb fa) := by
  refine ⟨ps_imp (ps_asg ha.h (pg_sub hv hb.h set_list h1) hs hw h3) fun D σ H ⟨ρ, hE, hP⟩ => ?_⟩
  unfold oSet at hP
  refine bindS hE hP fun d ρ0 vd H0 E0 X0 r0 hP0 => ?_
  by_cases h0 : isO ρ0 i = true
  · rw [if_pos h0] at hP0
    obtain ⟨xs0, h0⟩ := isO_get h0
    obtain ⟨p, vs0, g1, g2, g3⟩ := E0.own i xs0 h0
    refine ⟨.ref p, g1, bindS E0 hP0 fun y ρ1 v H1 E1 X1 r1 hP1 => ?_⟩
    cases q : (own? (ρ1.getD i .no)).bind (fun xs => setL xs y d) with
    | none => rw [q] at hP1; exact hP1.elim
    | some ys =>
      rw [q] at hP1
      obtain ⟨xs, q1, q2⟩ := Option.bind_eq_some_iff.mp q
      have hi := own_get q1
      obtain ⟨p', vs, h1, h2, h3⟩ := E1.own i xs hi
      rw [g1] at h1
      cases h1
      cases y with
      | int k =>
        obtain ⟨j, j1, j2⟩ := Option.map_eq_some_iff.mp q2
        subst j2
        obtain ⟨e1, e2, e3⟩ := E1.write (pl := pl) hi g1 h2 (h3.set (r0.ext X1) j)
        exact ⟨p, vs, k, j, rfl, r1.inv_int, h2, by rw [← h3.length]; exact j1, hP1 σ _ e1 e2⟩
      | _ => cases q2
  · rw [if_neg h0] at hP0
    exact hP0.elim
end
end
end DL
/-! DLZ: zip of a list and a tuple, in any mix: one walk for all kinds. -/
namespace DL
noncomputable section
open PySem PySem.Spec PyProof.Rows L2
def SqK (k : Bool) (K : PySem.W.Frag) (H : Hp) (a : Addr) (xs : List V) : Prop := match k with
  | true => SqL K H a xs
  | false => SqT K H a xs
def itrK (k : Bool) (h : Heap) (it a : Addr) (i : Nat) : Prop := match k with
  | true => h.IsListIter it a i
  | false => h.IsTupleIter it a i
def arrK (k : Bool) (h : Heap) (a : Addr) (its : Array Value) : Prop := match k with
  | true => h.IsList a its
  | false => h.IsTuple a its
theorem drawsK {prog : Program} {w : World} {A : Around} (hh : A.handled = none) (k : Bool) (it l : Addr) (hne : l ≠ it) (items : Array Value) :
    Draws prog w A it [it, l] items.size (fun i v => items[i]? = some v) (fun i h => itrK k h it l i ∧ arrK k h l items) := by
  cases k
  · exact Draws.tuple hh it l hne items
  · exact Draws.list hh it l hne items
section
variable {X : Cx} {pins : List (Addr × Obj)} {σ : St} {H : Hp} {s : Shared} {a : Addr} {xs ys : List V} {k : Bool}
theorem sqK_val (I : Inv X pins σ H s) (h : SqK k X.K H a xs) : ∃ its : List Value, Vals xs its ∧ arrK k s.heap a its.toArray := by
  cases k
  · obtain ⟨its, r, p, _⟩ := I.tuple h
    exact ⟨its, r, p⟩
  · obtain ⟨its, r, p, _⟩ := I.list h
    exact ⟨its, r, p.isList⟩
theorem sqK_inj (I : Inv X pins σ H s) (h : SqK k X.K H a xs) (h2 : SqK k X.K H a ys) : xs = ys := by
  cases k
  · exact I.tuple_inj h h2
  · exact I.list_inj h h2
end
theorem itrK_obj {k : Bool} {h : Heap} {it a : Addr} {i : Nat} (st : itrK k h it a i) : ∃ o, h.get? it = some o ∧ ∀ v, o.data ≠ .cell v := by
  cases k
  · obtain ⟨o, e, _, d⟩ := st
    exact ⟨o, e, fun v z => by rw [d] at z; cases z⟩
  · obtain ⟨o, e, _, d⟩ := st
    exact ⟨o, e, fun v z => by rw [d] at z; cases z⟩
theorem itrK_at {k : Bool} {h h' : Heap} {it a : Addr} {i : Nat} (st : itrK k h it a i) (f : ∀ o, h.get? it = some o → h'.get? it = some o) : itrK k h' it a i := by
  cases k
  · exact Heap.IsTupleIter.at st f
  · exact Heap.IsListIter.at st f
/-- the sequences at a and b as they stand at each turn, of the kinds k and l -/
def ItzK (K : PySem.W.Frag) (k l : Bool) (a b : Addr) : It :=
  ⟨fun i H => ∃ (xs ys : List V) (x y : V), SqK k K H a xs ∧ SqK l K H b ys ∧ xs[i]? = some x ∧ ys[i]? = some y,
    fun i H v H' => ∃ T x y, v = .ref T ∧ H T = none ∧ H' = upd H T (.tup [x, y]) ∧ (∀ xs, SqK k K H a xs → xs[i]? = some x) ∧ ∀ ys, SqK l K H b ys → ys[i]? = some y,
    fun i H => ∃ xs ys : List V, SqK k K H a xs ∧ SqK l K H b ys ∧ (xs.length ≤ i ∨ ys.length ≤ i) ∧ i ≤ xs.length ∧ i ≤ ys.length⟩
theorem sepK {z TI TO i1 i2 a b : Addr} (D : ZipApart z TI TO i1 i2 a b) : ZipSep2 z TI TO i1 i2 [i1, a] [i2, b] where
  TIz := D.TIz
  TOz := D.TOz
  TITO := D.TITO
  TIi1 := D.TIi1
  mem1 := List.mem_cons_self ..
  zf1 := fun m => by
    rcases List.mem_cons.mp m with e | e
    · exact D.i1z e.symm
    · exact D.l1z (List.mem_singleton.mp e).symm
  Tf1 := fun m => by
    rcases List.mem_cons.mp m with e | e
    · exact D.TOi1 e
    · exact D.l1TO (List.mem_singleton.mp e).symm
  TIi2 := D.TIi2
  mem2 := List.mem_cons_self ..
  zf2 := fun m => by
    rcases List.mem_cons.mp m with e | e
    · exact D.i2z e.symm
    · exact D.l2z (List.mem_singleton.mp e).symm
  Tf2 := fun m => by
    rcases List.mem_cons.mp m with e | e
    · exact D.TOi2 e
    · exact D.l2TO (List.mem_singleton.mp e).symm
  sep1_2 := fun m => by
    rcases List.mem_cons.mp m with e | e
    · exact D.i12 e
    · exact D.l2i1 (List.mem_singleton.mp e).symm
  sep2_1 := fun m => by
    rcases List.mem_cons.mp m with e | e
    · exact D.i12 e.symm
    · exact D.l1i2 (List.mem_singleton.mp e).symm
theorem turnK {P : Program} {w : World} {K : PySem.W.Frag} {elts : List Expr} {kk : Nat} {tpos : Pos} {a b z TI TO i1 i2 : Addr} (k l : Bool) (D : ZipApart z TI TO i1 i2 a b) :
    Turn P w K (.Tuple elts kk tpos) (ItzK K k l a b) [z, TI, TO, i1, i2] z (fun i h => IsZip h z TI TO .none ∧ IsTupOf2 h TI (.ref i1) (.ref i2) ∧ (∃ x y, IsTupOf2 h TO x y) ∧ itrK k h i1 a i ∧ itrK l h i2 b i) where
  mem := List.mem_cons_self ..
  obj := fun i h st c hc => by
    obtain ⟨gz, gT, ⟨x, y, gO⟩, g1, g2⟩ := st
    simp only [List.mem_cons, List.not_mem_nil, or_false] at hc
    rcases hc with rfl | rfl | rfl | rfl | rfl
    · exact ⟨_, gz, fun v e => nomatch e⟩
    · exact ⟨_, gT, fun v e => nomatch e⟩
    · exact ⟨_, gO, fun v e => nomatch e⟩
    · exact itrK_obj g1
    · exact itrK_obj g2
  keep := fun i h h2 st kp => by
    obtain ⟨gz, gT, ⟨x, y, gO⟩, g1, g2⟩ := st
    exact ⟨kp z (by simp) _ gz, kp TI (by simp) _ gT, ⟨x, y, kp TO (by simp) _ gO⟩, itrK_at g1 fun o q => kp i1 (by simp) o q, itrK_at g2 fun o q => kp i2 (by simp) o q⟩
  item := by
    intro X hP hw hK hc i pins s σ H E I hf st go
    subst hP hw hK
    obtain ⟨gz, gT, ⟨x0, y0, gO⟩, g1, g2⟩ := st
    obtain ⟨xs, ys, x, y, qx, qy, ex, ey⟩ := go
    obtain ⟨ia, ra, pa⟩ := sqK_val I qx
    obtain ⟨ib, rb, pb⟩ := sqK_val I qy
    obtain ⟨u, hu, ru⟩ := ra.get ex
    obtain ⟨u2, hu2, ru2⟩ := rb.get ey
    have zl : z < s.heap.objs.size := Heap.lt_size gz
    have hd := I.ok.hd hc
    have la : i < ia.toArray.size := by simpa using (List.getElem?_eq_some_iff.mp hu).1
    have lb : i < ib.toArray.size := by simpa using (List.getElem?_eq_some_iff.mp hu2).1
    refine wpAny_pyNext_zipD2_item (sepK D) (drawsK (A := X.A.in1) hd k i1 a D.l1i1 ia.toArray) (drawsK (A := X.A.in1) hd l i2 b D.l2i2 ib.toArray) gz gT gO ⟨g1, pa⟩ ⟨g2, pb⟩ la lb fun v1 v2 h2 tk e1 e2 z2 O2 st1 st2 T2 sz kp => ?_
    have f1 : v1 = u := by
      have := e1.symm.trans (show ia.toArray[i]? = some u by simpa using hu)
      exact Option.some.inj this
    have f2 : v2 = u2 := by
      have := e2.symm.trans (show ib.toArray[i]? = some u2 by simpa using hu2)
      exact Option.some.inj this
    subst f1 f2
    refine ⟨_, rfl, wpAny_letOwnedTupleGo_zip (s := { s with heap := h2, toks := tk }) z2 fun h3 z3 sb => ?_⟩
    have T3 : h3.get? s.heap.objs.size = some { cls := .type "tuple", data := .seq #[v1, v2] } := (sb.2 _ (Nat.ne_of_gt zl)).trans T2
    have nw : ObjOk X.prog X.w (upd H s.heap.objs.size (.tup [x, y])) h3 s.heap.objs.size (.tup [x, y]) :=
      ⟨by show 2 ≤ sizeLine; decide, [v1, v2], .cons ru (.cons ru2 .nil), ⟨_, T3, rfl, _, rfl⟩⟩
    have kp3 : ∀ c o, c ∉ [z, TI, TO, i1, i2] → s.heap.get? c = some o → h3.get? c = some o := fun c o hb q => by
      simp only [List.mem_cons, List.not_mem_nil, or_false, not_or] at hb
      exact (sb.2 c hb.1).trans (kp c o hb.1 hb.2.2.1 hb.2.2.2.1 hb.2.2.2.2 q)
    have I1 : Inv X pins σ (upd H s.heap.objs.size (.tup [x, y])) { s with heap := h3, toks := tk } := I.turnedNew (t' := tk) (ch := [z, TI, TO, i1, i2]) kp3 hf (Nat.le_refl _) nw
    refine ⟨.ref s.heap.objs.size, _, I1, rfl, ⟨_, x, y, rfl, I.hok.fresh (Nat.le_refl _), rfl, fun q hq => by rw [sqK_inj I hq qx]; exact ex, fun q hq => by rw [sqK_inj I hq qy]; exact ey⟩, ⟨z3, ?_, ⟨v1, v2, ?_⟩, ?_, ?_⟩, fun c hcm => ?_⟩
    · exact (sb.2 _ D.TIz).trans (kp _ _ D.TIz D.TITO D.TIi1 D.TIi2 gT)
    · exact (sb.2 _ D.TOz).trans O2
    · exact itrK_at st1.1 fun o q => (sb.2 _ D.i1z).trans q
    · exact itrK_at st2.1 fun o q => (sb.2 _ D.i2z).trans q
    · have lt : c < s.heap.objs.size := by
        obtain ⟨_, w1, _⟩ := itrK_obj g1
        obtain ⟨_, w2, _⟩ := itrK_obj g2
        simp only [List.mem_cons, List.not_mem_nil, or_false] at hcm
        rcases hcm with rfl | rfl | rfl | rfl | rfl
        · exact zl
        · exact Heap.lt_size gT
        · exact Heap.lt_size gO
        · exact Heap.lt_size w1
        · exact Heap.lt_size w2
      rw [upd_ne (Nat.ne_of_lt lt)]
      exact (hf c hcm).1
  done := by
    intro X hP hw hK hc i pins s σ H E I hf st go
    subst hP hw hK
    obtain ⟨gz, gT, ⟨x0, y0, gO⟩, g1, g2⟩ := st
    obtain ⟨xs, ys, qx, qy, he, l1, l2⟩ := go
    obtain ⟨ia, ra, pa⟩ := sqK_val I qx
    obtain ⟨ib, rb, pb⟩ := sqK_val I qy
    have m1 := ra.length
    have m2 := rb.length
    have hd := I.ok.hd hc
    refine wpAny_pyNext_zipD2_end (sepK D) (drawsK (A := X.A.in1) hd k i1 a D.l1i1 ia.toArray) (drawsK (A := X.A.in1) hd l i2 b D.l2i2 ib.toArray) gz gT gO ⟨g1, pa⟩ ⟨g2, pb⟩ (by simp; omega) (by simp; omega) (by simp; omega) fun h2 tk kp => ?_
    exact ⟨rfl, I.turnedL (t' := tk) (ch := [z, TI, TO, i1, i2]) (fun c o hb q => by
      simp only [List.mem_cons, List.not_mem_nil, or_false, not_or] at hb
      exact kp c o hb.1 hb.2.2.1 hb.2.2.2.1 hb.2.2.2.2 q) hf⟩
  self := fun A i s Q E st h => wpAny_pyIter_zip st.1 h
def bgO (k : Bool) (a : Addr) : Obj := { cls := .type (match k with | true => "list_iterator" | false => "tuple_iterator"), data := .fields #[.ref a, .int 0 0] }
theorem beginsK (k : Bool) (a : Addr) (its : Array Value) : Begins (.ref a) (bgO k a) fun h => arrK k h a its := by
  cases k
  · exact begins_tuple a its
  · exact begins_list a its
theorem itrK_new {k : Bool} {h : Heap} {it a : Addr} (e : h.get? it = some (bgO k a)) : itrK k h it a 0 := by
  cases k
  · exact ⟨_, e, rfl, rfl⟩
  · exact ⟨_, e, rfl, rfl⟩
theorem arrK_lt {k : Bool} {h : Heap} {a : Addr} {its : Array Value} (p : arrK k h a its) : a < h.objs.size := by
  cases k
  · obtain ⟨o, e, _⟩ := p
    exact Heap.lt_size e
  · obtain ⟨o, e, _⟩ := p
    exact Heap.lt_size e
def iZipK (K : PySem.W.Frag) (ta : TA) : TI := fun σ H R => ta σ H fun vs H1 => ∃ a b xs ys k l, vs = [.ref a, .ref b] ∧ SqK k K H1 a xs ∧ SqK l K H1 b ys ∧ R (ItzK K k l a b) H1
theorem pi_zipK {X : Cx} {e e2 : Expr} {ta : TA} {p pos tpos : Pos} {elts : List Expr} {kk : Nat} (hg : Gl X "zip") (hm : X.mg "zip" = none) (ha : PA X [e, e2] ta)
    (hs : starEach [e, e2] X.env = (false, eval e X.env) :: starEach [e2] X.env := by rfl) (hpl : (backTo pos (starEach [e2] X.env)).any (·.1) = false := by rfl) :
    PI X (.Tuple elts kk tpos) (.Call (.Name "zip" p) [e, e2] [] pos) (iZipK X.K ta) := by
  refine ⟨fun pins s σ H R I h => Call_ (ld_blt I hg hm PyProof.Rows.boot_zip (PyProof.Rows.callWith_type1 (thn (ha.run pos pins s σ H _ I h) fun us s1 ⟨vs, H1, I1, r1, q1⟩ => ?_) hs hpl))⟩
  obtain ⟨a, b, xs, ys, k, l, rfl, qx, qy, q⟩ := q1
  cases r1 with
  | cons ra rr =>
    cases rr with
    | cons rb rr =>
      cases rr
      cases ra
      cases rb
      obtain ⟨ia, va, pa⟩ := sqK_val I1 qx
      obtain ⟨ib, vb, pb⟩ := sqK_val I1 qy
      refine zip_begins2 (beginsK k a ia.toArray) (beginsK l b ib.toArray) pa pb fun h2 gz gT gO g1 g2 sz kp => wpAny_pyIter_zip gz ?_
      have I2 : Inv X pins σ H1 { s1 with heap := h2 } := I1.kept (t' := s1.toks) kp
      refine ⟨s1.heap.objs.size + 4, [s1.heap.objs.size + 4, s1.heap.objs.size + 2, s1.heap.objs.size + 3, s1.heap.objs.size, s1.heap.objs.size + 1], _, _, H1, rfl, I2, turnK k l (PySem.W.ktu_apart s1.heap.objs.size a b (arrK_lt pa) (arrK_lt pb)), ⟨gz, gT, ⟨_, _, gO⟩, itrK_new g1, itrK_new g2⟩, fun c hcm => ?_, q⟩
      have le : s1.heap.objs.size ≤ c := by
        simp only [List.mem_cons, List.not_mem_nil, or_false] at hcm
        rcases hcm with rfl | rfl | rfl | rfl | rfl
        · exact Nat.le_add_right _ _
        · exact Nat.le_add_right _ _
        · exact Nat.le_add_right _ _
        · exact Nat.le_refl _
        · exact Nat.le_add_right _ _
      exact I1.fpOk le (I1.hok.fresh le)
end
end DL
/-! DLE: targets, what a loop walks, for, while, comprehensions. -/
namespace DL
noncomputable section
open PySem PySem.Spec PyProof.Rows L2

/-! ### targets -/
def setAllV : List Nat → List V → St → St
  | i :: is, v :: vs, σ => setAllV is vs (σ.set i (some v))
  | _, _, σ => σ
def StoV (K : PySem.W.Frag) (t : Tg) (v : V) (σ : St) (H : Hp) (σ' : St) : Prop := match t with
  | .n i => σ' = σ.set i (some v)
  | .t is => ∃ a vs, v = .ref a ∧ (SqT K H a vs ∨ SqL K H a vs) ∧ vs.length = is.length ∧ σ' = setAllV is vs σ
def tgI : Tg → List Nat
  | .n i => [i]
  | .t is => is
def gOf (K : PySem.W.Frag) (t : Tg) : TG := fun v σ H Q => ∃ σ', StoV K t v σ H σ' ∧ Q σ' H
structure DG (X : Cx) (tg : Expr) (t : Tg) : Prop where
  h : PG X tg (gOf X.K t)
theorem pg_imp {X : Cx} {tg : Expr} {t t' : TG} (h : PG X tg t) (i : ∀ v σ H Q, t' v σ H Q → t v σ H Q) : PG X tg t' := ⟨fun pins s σ H v u Q I r hw => h.run pins s σ H v u Q I r (i v σ H Q hw)⟩
theorem pg_or {X : Cx} {tg : Expr} {t t' : TG} (h : PG X tg t) (h' : PG X tg t') : PG X tg (fun v σ H Q => t v σ H Q ∨ t' v σ H Q) :=
  ⟨fun pins s σ H v u Q I r hw => hw.elim (h.run pins s σ H v u Q I r) (h'.run pins s σ H v u Q I r)⟩
section
variable {X : Cx} {tg : Expr} {pos : Pos}
theorem dg_name {i : Nat} {x : Str} (h : PG X (.Name x pos) (gName i)) : DG X (.Name x pos) (.n i) := ⟨pg_imp h fun v σ H Q ⟨σ', e, q⟩ => by
  rw [show σ' = σ.set i (some v) from e] at q
  exact q⟩
/-- several names -/
structure DGs (X : Cx) (es : List Expr) (is : List Nat) : Prop where
  h : PGs X es (fun vs σ H Q => vs.length = is.length ∧ Q (setAllV is vs σ) H)
theorem dgs_nil : DGs X [] [] := ⟨⟨fun pins s σ H vs us Q I r h => by
  obtain ⟨h1, h2⟩ := h
  have e : vs = [] := List.eq_nil_of_length_eq_zero h1
  exact pgs_nil.run pins s σ H vs us Q I r ⟨e, by rw [e] at h2; exact h2⟩⟩⟩
theorem dgs_cons {e : Expr} {es : List Expr} {i : Nat} {is : List Nat} (h1 : PG X e (gName i)) (h2 : DGs X es is) (hs : (assignEach (e :: es) X.env).map (·.2) = assign e X.env :: (assignEach es X.env).map (·.2)) : DGs X (e :: es) (i :: is) :=
  ⟨⟨fun pins s σ H vs us Q I r h => (pgs_cons h1 h2.h hs).run pins s σ H vs us Q I r (by
    obtain ⟨hl, q⟩ := h
    cases vs with
    | nil => cases hl
    | cons v vs => exact ⟨v, vs, rfl, Nat.succ.inj hl, q⟩)⟩⟩
theorem dg_tup {es : List Expr} {k : Nat} {is : List Nat} (hc : X.calm = true) (h : DGs X es is) (hn : (assignEach es X.env).length = is.length) (hst : (assignEach es X.env).findIdx? (·.1) = none) : DG X (.Tuple es k pos) (.t is) := by
  refine ⟨pg_imp (pg_or (pg_tup hc h.h hn hst) (pg_lst hc h.h hn hst)) fun v σ H Q ⟨σ', ⟨a, vs, e, hq, hl, es⟩, q⟩ => ?_⟩
  rcases hq with hq | hq
  · exact .inl ⟨a, vs, e, hq, hl, hl, by rw [← es]; exact q⟩
  · exact .inr ⟨a, vs, e, hq, hl, hl, by rw [← es]; exact q⟩
end
section
variable {K : PySem.W.Frag} {pl : List Nat} {H : Hp}
theorem wipe_set {i : Nat} {w : Option V} : ∀ {vs : List Nat} {σ : St}, i ∈ vs → wipe (σ.set i w) vs = wipe σ vs
  | [], _, h => by cases h
  | v :: vs, σ, h => by
    show (wipe (σ.set i w) vs).set v none = (wipe σ vs).set v none
    by_cases hv : i ∈ vs
    · rw [wipe_set hv]
    · have e : i = v := by
        rcases List.mem_cons.mp h with z | z
        · exact z
        · exact absurd z hv
      subst e
      have g : ∀ (us : List Nat) (τ : St), i ∉ us → wipe (τ.set i w) us = (wipe τ us).set i w := by
        intro us
        induction us with
        | nil => intro τ _; rfl
        | cons u us ih =>
          intro τ hu
          show (wipe (τ.set i w) us).set u none = ((wipe τ us).set u none).set i w
          have hu' : i ≠ u ∧ i ∉ us := by simpa using hu
          rw [ih τ hu'.2, List.set_comm _ _ hu'.1]
      rw [g vs σ hv, List.set_set]
theorem wipe_setAll {vs : List Nat} : ∀ {is : List Nat} {ws : List V} {σ : St}, (∀ i ∈ is, i ∈ vs) → wipe (setAllV is ws σ) vs = wipe σ vs
  | [], _, _, _ => by simp [setAllV]
  | i :: is, [], _, _ => rfl
  | i :: is, w :: ws, σ, h => by
    show wipe (setAllV is ws (σ.set i (some w))) vs = wipe σ vs
    rw [wipe_setAll fun j hj => h j (List.mem_cons_of_mem _ hj), wipe_set (h i (List.mem_cons_self ..))]
theorem setAll_ok : ∀ {is : List Nat} {ds : List D} {vs : List V} {ρ : Env} {σ : St}, EnvR K ρ σ H → VRs K H ds vs → (∀ i ∈ is, i ∉ pl) → EnvR K (setAll is ds ρ) (setAllV is vs σ) H ∧ Step pl ρ σ H (setAll is ds ρ) (setAllV is vs σ) H
  | [], _, _, _, _, e, _, _ => ⟨by simpa [setAll, setAllV] using e, by simpa [setAll, setAllV] using Step.refl⟩
  | i :: is, _, _, _, _, e, .nil, _ => ⟨e, .refl⟩
  | i :: is, d :: ds, v :: vs, ρ, σ, e, .cons r rs, h => by
    have e1 := e.setV (i := i) r
    have s1 : Step pl ρ σ H _ _ H := Step.setV (i := i) (d := d) (v := v) e (h i (List.mem_cons_self ..))
    obtain ⟨g1, g2⟩ := setAll_ok (is := is) e1 rs fun j hj => h j (List.mem_cons_of_mem _ hj)
    exact ⟨g1, s1.trans g2⟩
/-- a target stores -/
theorem sto_ok {t : Tg} {d : D} {v : V} {ρ ρ' : Env} {σ : St} (e : EnvR K ρ σ H) (r : VR K H d v) (h : t.sto d ρ = some ρ') (hp : ∀ i ∈ tgI t, i ∉ pl) :
    ∃ σ', StoV K t v σ H σ' ∧ EnvR K ρ' σ' H ∧ Step pl ρ σ H ρ' σ' H ∧ ∀ vs, (∀ i ∈ tgI t, i ∈ vs) → wipe σ' vs = wipe σ vs := by
  cases t with
  | n i =>
    cases h
    exact ⟨_, rfl, e.setV r, Step.setV e (hp i (List.mem_singleton.mpr rfl)), fun vs hv => wipe_set (hv i (List.mem_singleton.mpr rfl))⟩
  | t is =>
    cases d with
    | tup xs =>
      obtain ⟨hl, h⟩ := if_some h
      subst h
      obtain ⟨a, vs, rfl, ha, ra⟩ := r.inv_tup
      obtain ⟨g1, g2⟩ := setAll_ok (pl := pl) (is := is) e ra hp
      exact ⟨_, ⟨a, vs, rfl, .inl ha, by rw [← ra.length]; exact hl, rfl⟩, g1, g2, fun ws hv => wipe_setAll hv⟩
    | lst xs =>
      obtain ⟨hl, h⟩ := if_some h
      subst h
      obtain ⟨a, vs, rfl, ha, ra⟩ := r.inv_lst
      obtain ⟨g1, g2⟩ := setAll_ok (pl := pl) (is := is) e ra hp
      exact ⟨_, ⟨a, vs, rfl, .inr ha.seq, by rw [← ra.length]; exact hl, rfl⟩, g1, g2, fun ws hv => wipe_setAll hv⟩
    | _ => cases h
end
section
variable {X : Cx} {pl : List Nat} {W : WX} {a b e tg : Expr} {fa : RE} {t : Tg} {pos : Pos}
theorem ds_asg (ha : DE X pl W e fa) (hg : DG X tg t) (hp : ∀ i ∈ tgI t, i ∉ pl) (hs : swapsWithSole [tg] e pos.line X.env = pure false) (hw : swappedStores [tg] e X.env = pure none)
    (h1 : (assignEach [tg] X.env).map (·.2) = [assign tg X.env]) : DS X pl W (.Assign [tg] e pos) (sAsg t fa) := by
  refine ⟨ps_imp (ps_asg ha.h hg.h hs hw h1) fun D σ H ⟨ρ, hE, hP⟩ => ?_⟩
  refine bindS hE hP fun d ρ1 v H1 E1 X1 r1 hP1 => ?_
  cases q : t.sto d ρ1 with
  | none => simp only [q] at hP1; exact hP1.elim
  | some ρ2 =>
    simp only [q] at hP1
    obtain ⟨σ', g1, g2, g3, _⟩ := sto_ok (pl := pl) E1 r1 q hp
    exact ⟨σ', g1, hP1 σ' H1 g2 g3⟩
theorem ds_par {i j : Nat} {x y : Str} {fs : RM} {px py pt : Pos} {kt k2 pt2} (hc : X.calm = true) (hN : X.N.Nodup) (hi : X.N[i]? = some x) (hj : X.N[j]? = some y) (hij : i ≠ j)
    (hx : X.env.scope.names.lookup x = some .local) (hy : X.env.scope.names.lookup y = some .local) (hpi : i ∉ pl) (hpj : j ∉ pl) (ha : DAs X pl W [a, b] fs)
    (hw : swappedStores [.Tuple [.Name x px, .Name y py] kt pt] (.Tuple [a, b] k2 pt2) X.env = pure (some [x, y]))
    (hs : swapsWithSole [.Tuple [.Name x px, .Name y py] kt pt] (.Tuple [a, b] k2 pt2) pos.line X.env = pure false) :
    DS X pl W (.Assign [.Tuple [.Name x px, .Name y py] kt pt] (.Tuple [a, b] k2 pt2) pos) (sPar i j fs) := by
  refine ⟨ps_imp (ps_par hc hN hi hj hij hx hy ha.h hw hs) fun D σ H ⟨ρ, hE, hP⟩ => ?_⟩
  refine bindS hE hP fun d ρ1 v H1 E1 X1 r1 hP1 => ?_
  match d, r1, hP1 with
  | [p, q], .cons r1 (.cons r2 .nil), hP1 =>
    refine ⟨_, _, rfl, hP1 _ H1 ((E1.setV r1).setV r2) ?_⟩
    exact (Step.setV E1 hpi).trans (Step.setV (E1.setV r1) hpj)
  | [], _, hP1 => exact hP1.elim
  | [_], _, hP1 => exact hP1.elim
  | _ :: _ :: _ :: _, _, hP1 => exact hP1.elim
end

/-! ### what a loop walks -/
def ItR (K : PySem.W.Frag) (J : It) (xs : List D) (H : Hp) : Prop := ∀ (i : Nat) H2, Ext H H2 →
  (∀ d, xs[i]? = some d → J.go i H2 ∧ ∀ v H3, J.yld i H2 v H3 → Gr H2 H3 ∧ VR K H3 d v) ∧ (xs.length = i → J.stop i H2)
theorem ItR.ext {K : PySem.W.Frag} {J : It} {xs : List D} {H H1 : Hp} (h : ItR K J xs H) (x : Ext H H1) : ItR K J xs H1 := fun i H2 y => h i H2 (x.trans y)
def iOf (K : PySem.W.Frag) (pl : List Nat) (W : WX) (f : RM) : TI := tOfG (fun H xs J => ItR K J xs H) K pl W f
structure DI (X : Cx) (pl : List Nat) (W : WX) (tg e : Expr) (f : RM) : Prop where
  h : PI X tg e (iOf X.K pl W f)
theorem pi_imp {X : Cx} {tg e : Expr} {t t' : TI} (h : PI X tg e t) (i : ∀ σ H R, t' σ H R → t σ H R) : PI X tg e t' := ⟨fun pins s σ H R I hw => h.run pins s σ H R I (i σ H R hw)⟩
theorem pi_or {X : Cx} {tg e : Expr} {t t' : TI} (h : PI X tg e t) (h' : PI X tg e t') : PI X tg e (fun σ H R => t σ H R ∨ t' σ H R) :=
  ⟨fun pins s σ H R I hw => hw.elim (h.run pins s σ H R I) (h'.run pins s σ H R I)⟩
theorem SqL.inj2 {X : Cx} {pins : List (Addr × Obj)} {σ : St} {H : Hp} {s : Shared} {a : Addr} {xs ys : List V} (I : Inv X pins σ H s) (h : SqL X.K H a xs) (h' : SqL X.K H a ys) : xs = ys := I.list_inj h h'
section
variable {K : PySem.W.Frag} {H : Hp}
theorem fz_inj {a : Addr} {vs ws : List V} (h : FzL H a vs) (h2 : FzL H a ws) : vs = ws := by
  obtain ⟨o, h⟩ := h
  obtain ⟨o', h2⟩ := h2
  rw [h] at h2
  cases h2
  rfl
theorem itl_of {a : Addr} {ds : List D} {vs : List V} (h : FzL H a vs) (r : VRs K H ds vs) : ItR K (Itl K a) ds H := by
  intro i H2 x
  refine ⟨fun d hd => ?_, fun hl => ⟨vs, (x.fzL h).seq, by rw [← r.length]; omega⟩⟩
  obtain ⟨v, h1, h2⟩ := r.get hd
  refine ⟨⟨vs, v, (x.fzL h).seq, h1⟩, fun w H3 ⟨e, f⟩ => ?_⟩
  subst e
  have q := f vs (x.fzL h).seq
  rw [h1] at q
  cases q
  exact ⟨.refl _, h2.ext x⟩
theorem itt_of {a : Addr} {ds : List D} {vs : List V} (h : SqT K H a vs) (r : VRs K H ds vs) : ItR K (Itt K a) ds H := by
  intro i H2 x
  refine ⟨fun d hd => ?_, fun hl => ⟨vs, x.sqT h, by rw [← r.length]; omega⟩⟩
  obtain ⟨v, h1, h2⟩ := r.get hd
  refine ⟨⟨vs, v, x.sqT h, h1⟩, fun w H3 ⟨e, f⟩ => ?_⟩
  subst e
  have q := f vs (x.sqT h)
  rw [h1] at q
  cases q
  exact ⟨.refl _, h2.ext x⟩
theorem range_get {lo : Int} {n i : Nat} {d : D} (h : (rangeL lo n)[i]? = some d) : i < n ∧ d = .int (lo + (i : Nat)) := by
  unfold rangeL at h
  rw [List.getElem?_map] at h
  obtain ⟨k, h1, h2⟩ := Option.map_eq_some_iff.mp h
  have hl := (List.getElem?_eq_some_iff.mp h1).1
  rw [List.length_range] at hl
  rw [List.getElem?_range hl] at h1
  cases h1
  exact ⟨hl, h2.symm⟩
theorem range_len (lo : Int) (n : Nat) : (rangeL lo n).length = n := by
  unfold rangeL
  rw [List.length_map, List.length_range]
theorem itr_of (lo : Int) (n : Nat) : ItR K (Itr lo n) (rangeL lo n) H := by
  intro i H2 x
  refine ⟨fun d hd => ?_, fun hl => by rw [range_len] at hl; exact Nat.le_of_eq hl⟩
  obtain ⟨h1, h2⟩ := range_get hd
  refine ⟨h1, fun w H3 ⟨e, f⟩ => ?_⟩
  subst e f h2
  exact ⟨.refl _, .int _⟩
theorem zip_get {xs ys : List D} {i : Nat} {d : D} (h : (zipD xs ys)[i]? = some d) : ∃ x y, xs[i]? = some x ∧ ys[i]? = some y ∧ d = .tup [x, y] := by
  unfold zipD at h
  rw [List.getElem?_map] at h
  obtain ⟨⟨x, y⟩, h1, h2⟩ := Option.map_eq_some_iff.mp h
  obtain ⟨g1, g2⟩ := List.getElem?_zip_eq_some.mp h1
  exact ⟨x, y, g1, g2, h2.symm⟩
theorem zip_len (xs ys : List D) : (zipD xs ys).length = min xs.length ys.length := by
  unfold zipD
  rw [List.length_map, List.length_zip]
theorem itzK_of {a b : Addr} {ds es : List D} {vs ws : List V} {k l : Bool} (h : SqK k K H a vs) (r : VRs K H ds vs) (h' : SqK l K H b ws) (r' : VRs K H es ws) (f : ∀ H2, Ext H H2 → SqK k K H2 a vs) (f' : ∀ H2, Ext H H2 → SqK l K H2 b ws) : ItR K (ItzK K k l a b) (zipD ds es) H := by
  intro i H2 x
  have n1 := r.length
  have n2 := r'.length
  refine ⟨fun d hd => ?_, fun hl => ⟨vs, ws, f H2 x, f' H2 x, by rw [zip_len] at hl; omega, by rw [zip_len] at hl; omega, by rw [zip_len] at hl; omega⟩⟩
  obtain ⟨d1, d2, g1, g2, rfl⟩ := zip_get hd
  obtain ⟨v1, h1, h2⟩ := r.get g1
  obtain ⟨v2, h3, h4⟩ := r'.get g2
  refine ⟨⟨vs, ws, v1, v2, f H2 x, f' H2 x, h1, h3⟩, fun w H3 ⟨T, y1, y2, e1, e2, e3, f1, f2⟩ => ?_⟩
  subst e1 e3
  have q1 := f1 vs (f H2 x)
  rw [h1] at q1
  cases q1
  have q2 := f2 ws (f' H2 x)
  rw [h3] at q2
  cases q2
  exact ⟨.new e2, .tup (SqT.of upd_same) (.cons ((h2.ext x).ext (Gr.new e2).ext) (.cons ((h4.ext x).ext (Gr.new e2).ext) .nil))⟩
end
section
variable {X : Cx} {pl : List Nat} {W : WX} {a b e tg : Expr} {fa fb : RE} {t : Tg} {pos p : Pos}
def isTupD : D → Bool
  | .tup _ => true
  | _ => false
theorem di_val (h : DE X pl W e fa) : DI X pl W tg e (itE fa) := by
  refine ⟨pi_imp (pi_or (pi_list h.h) (pi_tup h.h)) fun σ H R ⟨ρ, hE, hP⟩ => ?_⟩
  have key : ∀ (k : Bool), (∃ d ρ1, fa ρ = .ok d ρ1 ∧ k = !isTupD d) ∨ (∀ d ρ1, fa ρ ≠ .ok d ρ1) →
      (k = true → iList X.K (tD X.K pl W fa) σ H R) ∧ (k = false → iTup X.K (tD X.K pl W fa) σ H R) := by
    intro k hk
    refine ⟨fun hk1 => ?_, fun hk1 => ?_⟩
    · refine ⟨ρ, hE, ?_⟩
      unfold itE at hP
      cases q : fa ρ with
      | bad => rw [q] at hP; exact hP
      | exc z ρ1 => rw [q] at hP; exact hP
      | ok d ρ1 =>
        rw [q] at hP
        intro v H1 e1 s1 r1
        have hP1 := PostG.trans (r := give (items? d) ρ1) s1 hP
        cases d with
        | lst ds =>
          obtain ⟨l, vs, rfl, hl, rl⟩ := r1.inv_lst
          exact ⟨l, rfl, ⟨vs, hl.seq⟩, hP1 _ H1 e1 .refl (itl_of hl rl)⟩
        | tup ds =>
          rcases hk with ⟨d', ρ', e', hk⟩ | hk
          · rw [q] at e'
            cases e'
            rw [hk1] at hk
            cases hk
          · exact absurd q (hk _ _)
        | _ => exact hP1.elim
    · refine ⟨ρ, hE, ?_⟩
      unfold itE at hP
      cases q : fa ρ with
      | bad => rw [q] at hP; exact hP
      | exc z ρ1 => rw [q] at hP; exact hP
      | ok d ρ1 =>
        rw [q] at hP
        intro v H1 e1 s1 r1
        have hP1 := PostG.trans (r := give (items? d) ρ1) s1 hP
        cases d with
        | tup ds =>
          obtain ⟨l, vs, rfl, hl, rl⟩ := r1.inv_tup
          exact ⟨l, rfl, ⟨vs, hl⟩, hP1 _ H1 e1 .refl (itt_of hl rl)⟩
        | lst ds =>
          rcases hk with ⟨d', ρ', e', hk⟩ | hk
          · rw [q] at e'
            cases e'
            rw [hk1] at hk
            cases hk
          · exact absurd q (hk _ _)
        | _ => exact hP1.elim
  cases q : fa ρ with
  | ok d ρ1 =>
    cases hk : (!isTupD d) with
    | true => exact .inl ((key true (.inl ⟨d, ρ1, q, hk.symm⟩)).1 rfl)
    | false => exact .inr ((key false (.inl ⟨d, ρ1, q, hk.symm⟩)).2 rfl)
  | exc z ρ1 => exact .inl ((key true (.inr fun d ρ' h => by rw [q] at h; cases h)).1 rfl)
  | bad => exact .inl ((key true (.inr fun d ρ' h => by rw [q] at h; cases h)).1 rfl)
theorem ok62_ok {i : Int} (h : ok62 i = true) : -(2 ^ 62) ≤ i ∧ i < 2 ^ 62 := by
  rw [ok62_eq] at h
  obtain ⟨h1, h2⟩ := Bool.and_eq_true_iff.mp h
  have e : (2 : Int) ^ 62 = two62 := by decide
  rw [e]
  exact ⟨of_decide_eq_true h1, of_decide_eq_true h2⟩
theorem di_range1 (hg : Gl X "range") (hm : X.mg "range" = none) (h : DE X pl W a fa) (hs : starEach [a] X.env = [(false, eval a X.env)]) : DI X pl W tg (.Call (.Name "range" p) [a] [] pos) (itR1 fa) := by
  refine ⟨pi_imp (pi_range1 hg hm (pa_cons h.h pa_nil hs) hs) fun σ H R ⟨ρ, hE, hP⟩ => ?_⟩
  refine bindG hE hP fun d ρ1 v H1 E1 X1 r1 hP1 => ?_
  cases d with
  | int j =>
    by_cases h6 : ok62 j = true
    · simp only [h6, if_true] at hP1
      obtain ⟨q1, q2⟩ := ok62_ok h6
      rw [r1.inv_int]
      exact ⟨j, rfl, q1, q2, hP1 _ H1 E1 .refl (itr_of 0 j.toNat)⟩
    · simp only [h6, if_false] at hP1
      exact hP1.elim
  | _ => exact hP1.elim
theorem di_range2 (hg : Gl X "range") (hm : X.mg "range" = none) (ha : DE X pl W a fa) (hb : DE X pl W b fb) (hs : starEach [a, b] X.env = [(false, eval a X.env), (false, eval b X.env)]) (hs2 : starEach [b] X.env = [(false, eval b X.env)]) :
    DI X pl W tg (.Call (.Name "range" p) [a, b] [] pos) (itR2 fa fb) := by
  refine ⟨pi_imp (pi_range2 hg hm (pa_cons ha.h (pa_cons hb.h pa_nil hs2) (by rw [hs, hs2])) hs hs2) fun σ H R ⟨ρ, hE, hP⟩ => ?_⟩
  refine bindG hE hP fun d ρ1 v H1 E1 X1 r1 hP1 => ?_
  refine bindG E1 hP1 fun d2 ρ2 v2 H2 E2 X2 r2 hP2 => ?_
  cases d with
  | int i =>
    cases d2 with
    | int j =>
      by_cases h6 : (ok62 i && ok62 j) = true
      · simp only [h6, if_true] at hP2
        obtain ⟨h1, h2⟩ := Bool.and_eq_true_iff.mp h6
        obtain ⟨q1, q2⟩ := ok62_ok h1
        obtain ⟨q3, q4⟩ := ok62_ok h2
        rw [r1.inv_int, r2.inv_int]
        exact ⟨i, j, rfl, ⟨q1, q2, q3, q4⟩, hP2 _ H2 E2 .refl (itr_of i (j - i).toNat)⟩
      · simp only [h6] at hP2
        exact hP2.elim
    | _ => exact hP2.elim
  | _ => exact hP2.elim
theorem sqd_of {K : PySem.W.Frag} {d : D} {ds : List D} {v : V} {H : Hp} (hd : items? d = some ds) (r : VR K H d v) : ∃ l vs k, v = .ref l ∧ SqK k K H l vs ∧ VRs K H ds vs ∧ ∀ H2, Ext H H2 → SqK k K H2 l vs := by
  cases d with
  | tup ds' =>
    cases hd
    obtain ⟨l, vs, rfl, hl, rl⟩ := r.inv_tup
    exact ⟨l, vs, false, rfl, hl, rl, fun H2 x => x.sqT hl⟩
  | lst ds' =>
    cases hd
    obtain ⟨l, vs, rfl, hl, rl⟩ := r.inv_lst
    exact ⟨l, vs, true, rfl, hl.seq, rl, fun H2 x => (x.fzL hl).seq⟩
  | _ => cases hd
theorem di_zip {elts : List Expr} {kk : Nat} {tpos : Pos} (hg : Gl X "zip") (hm : X.mg "zip" = none) (ha : DE X pl W a fa) (hb : DE X pl W b fb) (hs : starEach [a, b] X.env = (false, eval a X.env) :: starEach [b] X.env)
    (hs2 : starEach [b] X.env = (false, eval b X.env) :: starEach [] X.env) (hpl : (backTo pos (starEach [b] X.env)).any (·.1) = false) : DI X pl W (.Tuple elts kk tpos) (.Call (.Name "zip" p) [a, b] [] pos) (itZ fa fb) := by
  refine ⟨pi_imp (pi_zipK hg hm (pa_cons ha.h (pa_cons hb.h pa_nil hs2) hs) hs hpl) fun σ H R ⟨ρ, hE, hP⟩ => ?_⟩
  refine bindG hE hP fun d ρ1 v H1 E1 X1 r1 hP1 => ?_
  refine bindG E1 hP1 fun d2 ρ2 v2 H2 E2 X2 r2 hP2 => ?_
  have key : ∀ ds es, items? d = some ds → items? d2 = some es → PostG (fun H xs J => ItR X.K J xs H) X.K pl W (.ok (zipD ds es) ρ2) ρ2 σ H2 R →
      ∃ a b xs ys k l, [v, v2] = [.ref a, .ref b] ∧ SqK k X.K H2 a xs ∧ SqK l X.K H2 b ys ∧ R (ItzK X.K k l a b) H2 := fun ds es h1 h2 hP3 => by
    obtain ⟨l, vs, k, rfl, hl, rl, fl⟩ := sqd_of h1 (r1.ext X2)
    obtain ⟨l2, vs2, k2, rfl, hl2, rl2, fl2⟩ := sqd_of h2 r2
    exact ⟨l, l2, vs, vs2, k, k2, rfl, hl, hl2, hP3 _ H2 E2 .refl (itzK_of hl rl hl2 rl2 fl fl2)⟩
  cases d with
  | tup ds =>
    cases d2 with
    | tup es => exact key ds es rfl rfl hP2
    | lst es => exact key ds es rfl rfl hP2
    | _ => exact hP2.elim
  | lst ds =>
    cases d2 with
    | lst es => exact key ds es rfl rfl hP2
    | tup es => exact key ds es rfl rfl hP2
    | _ => exact hP2.elim
  | _ => exact hP2.elim

/-! ### for -/
theorem ds_for {iter : Expr} {body : List Stmt} {it : RM} {s : RS} (hp : PassesOwn (model X.prog X.w) X.A X.env X.xe) (hc : X.calm = true) (hi : DI X pl W tg iter it) (hg : DG X tg t) (hpl : ∀ i ∈ tgI t, i ∉ pl) (hb : DSs X pl W body s)
    (hs : ∀ x, foldedSetIterable iter X.env x = pure x) : DS X pl W (.For tg iter body [] pos) (sFor it t s) := by
  refine ⟨ps_imp (ps_for hp hc hi.h hg.h hb.h hs) fun D σ H ⟨ρ, hE, hP⟩ => ?_⟩
  refine bindS hE hP fun xs ρ1 J H1 E1 X1 r1 hP1 => ?_
  refine ⟨fun i m σ' H' => m = xs.length - i ∧ i ≤ xs.length ∧ ∃ ρ', EnvR X.K ρ' σ' H' ∧ Ext H1 H' ∧ PostS X.K pl W (forF t s (xs.drop i) ρ') ρ' σ' H' D,
    ⟨xs.length, by simp, Nat.zero_le _, ρ1, E1, .refl _, by rw [List.drop_zero]; exact hP1⟩, ?_⟩
  rintro i m σ2 H2 ⟨rfl, hil, ρ2, E2, X2, hP2⟩
  obtain ⟨g1, g2⟩ := r1 i H2 X2
  by_cases hlt : i < xs.length
  · obtain ⟨d, hd⟩ : ∃ d, xs[i]? = some d := ⟨xs[i], List.getElem?_eq_getElem hlt⟩
    obtain ⟨go, yl⟩ := g1 d hd
    have hdr : xs.drop i = d :: xs.drop (i + 1) := by
      rw [List.drop_eq_getElem_cons hlt]
      have := (List.getElem?_eq_some_iff.mp hd).2
      rw [this]
    rw [hdr] at hP2
    refine .inr ⟨go, fun σ' H' => ∃ ρ', EnvR X.K ρ' σ' H' ∧ Ext H1 H' ∧ PostS X.K pl W (forF t s (xs.drop (i + 1)) ρ') ρ' σ' H' D,
      fun σ' H' ⟨ρ', q1, q2, q3⟩ => ⟨xs.length - (i + 1), by omega, rfl, hlt, ρ', q1, q2, q3⟩, fun v H3 hy => ?_⟩
    obtain ⟨gr, rv⟩ := yl v H3 hy
    have E3 : EnvR X.K ρ2 σ2 H3 := E2.heap gr.keep
    have S3 : Step pl ρ2 σ2 H2 ρ2 σ2 H3 := Step.heap gr.keep
    have hP3 := PostS.trans S3 hP2
    unfold forF at hP3
    cases q : t.sto d ρ2 with
    | none => simp only [q] at hP3; exact hP3.elim
    | some ρ3 =>
      simp only [q] at hP3
      obtain ⟨σ3, f1, f2, f3, _⟩ := sto_ok (pl := pl) E3 rv q hpl
      refine ⟨σ3, f1, ρ3, f2, ?_⟩
      have hP4 := PostS.trans f3 hP3
      have X3 : Ext H1 H3 := X2.trans gr.ext
      cases q4 : s ρ3 with
      | bad => rw [q4] at hP4; exact hP4
      | exc z ρ4 => rw [q4] at hP4; exact hP4
      | ok fl ρ4 =>
        rw [q4] at hP4
        cases fl with
        | nx => exact fun σ' H' e st => ⟨ρ4, e, X3.trans (st.ext f2), PostS.trans st hP4⟩
        | ct => exact fun σ' H' e st => ⟨ρ4, e, X3.trans (st.ext f2), PostS.trans st hP4⟩
        | bk => exact hP4
        | rt d => exact hP4
        | ro xs => exact hP4
  · have hE0 : xs.drop i = [] := List.drop_eq_nil_of_le (by omega)
    rw [hE0] at hP2
    exact .inl ⟨g2 (by omega), hP2 σ2 H2 E2 .refl⟩

/-! ### while -/
theorem ds_while {c : Expr} {body : List Stmt} {tc : RT} {s : RS} (hp : PassesOwn (model X.prog X.w) X.A X.env X.xe) (hc : DT X pl W c tc) (hb : DSs X pl W body s) : DS X pl W (.While c body [] pos) (sWh tc s) := by
  refine ⟨ps_imp (ps_while hp hc.h hb.h) fun D σ H ⟨ρ, hE, hP⟩ => ?_⟩
  unfold sWh at hP
  by_cases h : ∃ n, (whF tc s n ρ).isBad = false
  · rw [dif_pos h] at hP
    generalize h.choose = n0 at hP
    refine ⟨fun m σ' H' => ∃ ρ', EnvR X.K ρ' σ' H' ∧ PostS X.K pl W (whF tc s m ρ') ρ' σ' H' D, ⟨n0, ρ, hE, hP⟩, ?_⟩
    rintro m σ2 H2 ⟨ρ2, E2, hP2⟩
    cases m with
    | zero => exact hP2.elim
    | succ m =>
      unfold whF at hP2
      refine bindS E2 hP2 fun k ρ3 k' H3 E3 X3 r3 hP3 => ?_
      cases r3
      cases k with
      | false => exact iteF (hP3 σ2 H3 E3 .refl)
      | true =>
        refine iteT ⟨fun σ' H' => ∃ ρ', EnvR X.K ρ' σ' H' ∧ PostS X.K pl W (whF tc s m ρ') ρ' σ' H' D, fun σ' H' q => ⟨m, Nat.lt_succ_self m, q⟩, ρ3, E3, ?_⟩
        have hP4 : PostS X.K pl W ((s ρ3).bind fun f ρ => match f with
          | .nx => whF tc s m ρ
          | .ct => whF tc s m ρ
          | .bk => .ok .nx ρ
          | .rt d => .ok (.rt d) ρ
          | .ro ys => .ok (.ro ys) ρ) ρ3 σ2 H3 D := hP3
        cases q4 : s ρ3 with
        | bad => rw [q4] at hP4; exact hP4
        | exc z ρ4 => rw [q4] at hP4; exact hP4
        | ok fl ρ4 =>
          rw [q4] at hP4
          cases fl with
          | nx => exact fun σ' H' e st => ⟨ρ4, e, PostS.trans st hP4⟩
          | ct => exact fun σ' H' e st => ⟨ρ4, e, PostS.trans st hP4⟩
          | bk => exact hP4
          | rt d => exact hP4
          | ro xs => exact hP4
  · rw [dif_neg h] at hP
    exact hP.elim
end
end
end DL
/-! DLF: comprehensions, calls, the contract of a def. -/
namespace DL
noncomputable section
open PySem PySem.Spec PyProof.Rows L2

/-! ### comprehensions -/
theorem wipeE_len (ρ : Env) : ∀ vs : List Nat, (wipeE ρ vs).length = ρ.length
  | [] => rfl
  | v :: vs => by unfold wipeE; rw [List.length_set, wipeE_len ρ vs]
theorem wipe_get {σ : St} {j : Nat} : ∀ {vs : List Nat}, j ∉ vs → (L2.wipe σ vs)[j]? = σ[j]?
  | [], _ => rfl
  | v :: vs, h => by
    have h' : j ≠ v ∧ j ∉ vs := by simpa using h
    show ((L2.wipe σ vs).set v none)[j]? = σ[j]?
    rw [List.getElem?_set_ne (Ne.symm h'.1)]
    exact wipe_get h'.2
theorem wipeE_get {ρ : Env} {j : Nat} : ∀ {vs : List Nat}, j ∉ vs → (wipeE ρ vs)[j]? = ρ[j]?
  | [], _ => rfl
  | v :: vs, h => by
    have h' : j ≠ v ∧ j ∉ vs := by simpa using h
    show ((wipeE ρ vs).set v .no)[j]? = ρ[j]?
    rw [List.getElem?_set_ne (Ne.symm h'.1)]
    exact wipeE_get h'.2
theorem wipeE_some {ρ : Env} {j : Nat} {s : DL.Slot} (hs : s ≠ .no) : ∀ {vs : List Nat}, (wipeE ρ vs)[j]? = some s → ρ[j]? = some s ∧ j ∉ vs
  | [], h => ⟨h, by simp⟩
  | v :: vs, h => by
    have h : ((wipeE ρ vs).set v .no)[j]? = some s := h
    rw [get_set] at h
    by_cases hv : v = j ∧ j < (wipeE ρ vs).length
    · rw [if_pos hv] at h
      cases h
      exact absurd rfl hs
    · rw [if_neg hv] at h
      obtain ⟨h1, h2⟩ := wipeE_some hs h
      have hl : j < (wipeE ρ vs).length := (List.getElem?_eq_some_iff.mp h).1
      refine ⟨h1, ?_⟩
      have : v ≠ j := fun z => hv ⟨z, hl⟩
      simp only [List.mem_cons, not_or]
      exact ⟨fun z => this z.symm, h2⟩
theorem backE_len (ρ0 ρ : Env) : ∀ vs : List Nat, (backE ρ0 ρ vs).length = ρ.length
  | [] => rfl
  | v :: vs => by unfold backE; rw [List.length_set, backE_len ρ0 ρ vs]
theorem backE_get {ρ0 ρ : Env} (hl : ρ0.length = ρ.length) {j : Nat} : ∀ {vs : List Nat}, (backE ρ0 ρ vs)[j]? = if j ∈ vs then ρ0[j]? else ρ[j]?
  | [] => by simp [backE]
  | v :: vs => by
    show ((backE ρ0 ρ vs).set v (ρ0.getD v .no))[j]? = _
    rw [get_set, backE_get hl, backE_len]
    by_cases hv : v = j
    · subst hv
      by_cases hj : v < ρ.length
      · rw [if_pos ⟨rfl, hj⟩, if_pos (List.mem_cons_self ..), List.getD_eq_getElem?_getD]
        have : v < ρ0.length := by omega
        rw [List.getElem?_eq_getElem this]
        rfl
      · rw [if_neg (fun z => hj z.2)]
        have e1 : ρ0[v]? = none := List.getElem?_eq_none (by omega)
        have e2 : ρ[v]? = none := List.getElem?_eq_none (by omega)
        rw [e1, e2]
        simp
    · rw [if_neg (fun z => hv z.1)]
      by_cases hm : j ∈ vs
      · rw [if_pos hm, if_pos (List.mem_cons_of_mem _ hm)]
      · rw [if_neg hm, if_neg (by simp only [List.mem_cons, not_or]; exact ⟨fun z => hv z.symm, hm⟩)]
section
variable {K : PySem.W.Frag} {pl vs : List Nat} {ρ ρ1 : Env} {σ : St} {H H1 : Hp}
theorem EnvR.wiped (e : EnvR K ρ σ H) : EnvR K (wipeE ρ vs) (L2.wipe σ vs) H := by
  refine ⟨by rw [wipeE_len, L2.wipe_length]; exact e.len, fun j d hj => ?_, fun j xs hj => ?_, fun j k xs ys a h1 h2 h3 h4 => ?_⟩
  · obtain ⟨h1, h2⟩ := wipeE_some (by simp) hj
    rw [wipe_get h2]
    exact e.val j d h1
  · obtain ⟨h1, h2⟩ := wipeE_some (by simp) hj
    rw [wipe_get h2]
    exact e.own j xs h1
  · obtain ⟨g1, g2⟩ := wipeE_some (by simp) h1
    obtain ⟨g3, g4⟩ := wipeE_some (by simp) h2
    rw [wipe_get g2] at h3
    rw [wipe_get g4] at h4
    exact e.dist j k xs ys a g1 g3 h3 h4
theorem own_wipe {a : Addr} (h : Own (wipeE ρ vs) (L2.wipe σ vs) a) : ∃ (i : Nat) (xs : List D), i ∉ vs ∧ ρ[i]? = some (.o xs) ∧ σ[i]? = some (some (.ref a)) := by
  obtain ⟨i, xs, h1, h2⟩ := h
  obtain ⟨g1, g2⟩ := wipeE_some (by simp) h1
  rw [wipe_get g2] at h2
  exact ⟨i, xs, g2, g1, h2⟩
/-- behind the block -/
theorem EnvR.back (e : EnvR K ρ σ H) (e1 : EnvR K (wipeE ρ1 vs) (L2.wipe σ vs) H1) (s : Step pl (wipeE ρ vs) (L2.wipe σ vs) H (wipeE ρ1 vs) (L2.wipe σ vs) H1) (x : Ext H H1) :
    EnvR K (backE ρ ρ1 vs) σ H1 ∧ Step pl ρ σ H (backE ρ ρ1 vs) σ H1 := by
  have hl : ρ.length = ρ1.length := by
    have h1 := e1.len
    rw [wipeE_len, wipe_length] at h1
    rw [h1]; exact e.len
  have gi : ∀ {j : Nat}, j ∈ vs → (backE ρ ρ1 vs)[j]? = ρ[j]? := fun {j} h => by rw [backE_get hl, if_pos h]
  have go : ∀ {j : Nat}, j ∉ vs → (backE ρ ρ1 vs)[j]? = (wipeE ρ1 vs)[j]? := fun {j} h => by rw [backE_get hl, if_neg h, wipeE_get h]
  have keepIn : ∀ {j : Nat} {xs : List D} {a : Addr} {o : HO}, j ∈ vs → ρ[j]? = some (.o xs) → σ[j]? = some (some (.ref a)) → H a = some o → H1 a = some o := fun {j xs a o} hj h1 h2 h3 => by
    refine s.keep a o h3 fun z => ?_
    obtain ⟨k, ys, hk, k1, k2⟩ := own_wipe z
    have := e.dist j k xs ys a h1 k1 h2 k2
    subst this
    exact hk hj
  refine ⟨⟨by rw [backE_len, ← hl]; exact e.len, fun j d hj => ?_, fun j xs hj => ?_, fun j k xs ys a h1 h2 h3 h4 => ?_⟩, ⟨fun a o h n => s.keep a o h fun z => ?_, s.trk, fun a h => ?_, fun _ _ => rfl⟩⟩
  · by_cases hv : j ∈ vs
    · rw [gi hv] at hj
      obtain ⟨v, h1, h2⟩ := e.val j d hj
      exact ⟨v, h1, h2.ext x⟩
    · rw [go hv] at hj
      obtain ⟨v, h1, h2⟩ := e1.val j d hj
      rw [wipe_get hv] at h1
      exact ⟨v, h1, h2⟩
  · by_cases hv : j ∈ vs
    · rw [gi hv] at hj
      obtain ⟨a, ws, h1, h2, h3⟩ := e.own j xs hj
      exact ⟨a, ws, h1, keepIn hv hj h1 h2, h3.ext x⟩
    · rw [go hv] at hj
      obtain ⟨a, ws, h1, h2, h3⟩ := e1.own j xs hj
      rw [wipe_get hv] at h1
      exact ⟨a, ws, h1, h2, h3⟩
  · -- two slots of one list
    have mix : ∀ {j k : Nat} {xs ys : List D}, j ∈ vs → k ∉ vs → (backE ρ ρ1 vs)[j]? = some (.o xs) → (backE ρ ρ1 vs)[k]? = some (.o ys) → σ[j]? = some (some (.ref a)) → σ[k]? = some (some (.ref a)) → False := fun {j k xs ys} hj hk h1 h2 h3 h4 => by
      rw [gi hj] at h1
      rw [go hk] at h2
      have own1 : Own (wipeE ρ1 vs) (L2.wipe σ vs) a := ⟨k, ys, h2, by rw [wipe_get hk]; exact h4⟩
      obtain ⟨b, ws, b1, b2, _⟩ := e.own j xs h1
      rw [h3] at b1
      cases b1
      rcases s.own a own1 with z | z
      · obtain ⟨m, zs, hm, m1, m2⟩ := own_wipe z
        have := e.dist j m xs zs a h1 m1 h3 m2
        subst this
        exact hm hj
      · rw [b2] at z; cases z
    by_cases hj : j ∈ vs
    · by_cases hk : k ∈ vs
      · rw [gi hj] at h1
        rw [gi hk] at h2
        exact e.dist j k xs ys a h1 h2 h3 h4
      · exact (mix hj hk h1 h2 h3 h4).elim
    · by_cases hk : k ∈ vs
      · exact (mix hk hj h2 h1 h4 h3).elim
      · rw [go hj] at h1
        rw [go hk] at h2
        exact e1.dist j k xs ys a h1 h2 (by rw [wipe_get hj]; exact h3) (by rw [wipe_get hk]; exact h4)
  · obtain ⟨i, xs, hi, h1, h2⟩ := own_wipe z
    exact n ⟨i, xs, h1, h2⟩
  · obtain ⟨j, xs, h1, h2⟩ := h
    by_cases hj : j ∈ vs
    · rw [gi hj] at h1
      exact .inl ⟨j, xs, h1, h2⟩
    · rw [go hj] at h1
      rcases s.own a ⟨j, xs, h1, by rw [wipe_get hj]; exact h2⟩ with z | z
      · obtain ⟨i, ys, hi, g1, g2⟩ := own_wipe z
        exact .inl ⟨i, ys, g1, g2⟩
      · exact .inr z
end

theorem wipeE_in {j : Nat} : ∀ {us : List Nat} {τ : DL.Env}, j ∈ us → (wipeE τ us)[j]? = if j < τ.length then some .no else none
  | [], _, h => by cases h
  | u :: us, τ, h => by
    show ((wipeE τ us).set u .no)[j]? = _
    rw [get_set, wipeE_len]
    by_cases hu : u = j
    · by_cases hj : j < τ.length
      · rw [if_pos ⟨hu, hj⟩, if_pos hj]
      · rw [if_neg (fun z => hj z.2), if_neg hj, List.getElem?_eq_none (by rw [wipeE_len]; omega)]
    · rw [if_neg (fun z => hu z.1)]
      rcases List.mem_cons.mp h with z | z
      · exact absurd z.symm hu
      · exact wipeE_in z
theorem wipeE_idem (us : List Nat) (τ : DL.Env) : wipeE (wipeE τ us) us = wipeE τ us := by
  refine List.ext_getElem? fun j => ?_
  by_cases hj : j ∈ us
  · rw [wipeE_in hj, wipeE_in hj, wipeE_len]
  · rw [wipeE_get hj]
theorem wipe_in {j : Nat} : ∀ {us : List Nat} {τ : St}, j ∈ us → (L2.wipe τ us)[j]? = if j < τ.length then some none else none
  | [], _, h => by cases h
  | u :: us, τ, h => by
    show ((L2.wipe τ us).set u none)[j]? = _
    rw [get_set, L2.wipe_length]
    by_cases hu : u = j
    · by_cases hj : j < τ.length
      · rw [if_pos ⟨hu, hj⟩, if_pos hj]
      · rw [if_neg (fun z => hj z.2), if_neg hj, List.getElem?_eq_none (by rw [L2.wipe_length]; omega)]
    · rw [if_neg (fun z => hu z.1)]
      rcases List.mem_cons.mp h with z | z
      · exact absurd z.symm hu
      · exact wipe_in z
theorem wipe_idem (us : List Nat) (τ : St) : L2.wipe (L2.wipe τ us) us = L2.wipe τ us := by
  refine List.ext_getElem? fun j => ?_
  by_cases hj : j ∈ us
  · rw [wipe_in hj, wipe_in hj, L2.wipe_length]
  · rw [wipe_get hj]
/-- within a comprehension no error is served -/
abbrev W0 : WX := fun _ _ _ _ => False
structure DTs (X : Cx) (pl : List Nat) (W : WX) (es : List Expr) (f : RT) : Prop where
  h : PTs X es (tDb X.K pl W f)
theorem dts_nil {X : Cx} {pl : List Nat} {W : WX} : DTs X pl W [] tTrue := ⟨⟨fun pins s σ H Q I ⟨ρ, hE, hP⟩ => pts_nil.run pins s σ H Q I (hP true H hE .refl rfl)⟩⟩
theorem dts_one {X : Cx} {pl : List Nat} {W : WX} {e : Expr} {f : RT} (h : DT X pl W e f) : DTs X pl W [e] f := ⟨⟨fun pins s σ H Q I hw => (pts_one h.h).run pins s σ H Q I hw⟩⟩
section
variable {K : PySem.W.Frag} {pl vs : List Nat} {ρ ρ1 ρ2 : DL.Env} {σ σ1 : St} {H H1 : Hp}
/-- a list that is no slot's changes -/
theorem EnvR.updNew {a : Addr} {vs ws : List V} (e : EnvR K ρ σ H) (h : H a = some (.lst vs)) (n : ¬ Own ρ σ a) : EnvR K ρ σ (upd H a (.lst ws)) ∧ Ext H (upd H a (.lst ws)) := by
  have no : ∀ {b u}, H b = some u → (∀ vs, u ≠ .lst vs) → upd H a (.lst ws) b = some u := fun {b u} q nu => by
    rw [upd_ne (fun z => by subst z; rw [h] at q; exact nu _ (Option.some.inj q).symm)]; exact q
  have x : Ext H (upd H a (.lst ws)) := ⟨fun b xs h => no h fun vs z => (by cases z), fun b o u h => no h fun vs z => (by cases z), fun b C dx fs h => no h fun vs z => (by cases z)⟩
  refine ⟨⟨e.len, fun i d hi => let ⟨v, h1, h2⟩ := e.val i d hi; ⟨v, h1, h2.ext x⟩, fun i xs hi => ?_, e.dist⟩, x⟩
  obtain ⟨b, ws, h1, h2, h3⟩ := e.own i xs hi
  exact ⟨b, ws, h1, by rw [upd_ne (fun z => n ⟨i, xs, hi, by rw [← z]; exact h1⟩)]; exact h2, h3.ext x⟩
theorem own_le {a : Addr} (h : Own (wipeE ρ vs) (L2.wipe σ vs) a) : Own ρ σ a := by
  obtain ⟨i, xs, _, h1, h2⟩ := own_wipe h
  exact ⟨i, xs, h1, h2⟩
theorem Step.own' {a : Addr} {o : HO} (s : Step pl ρ σ H ρ1 σ1 H1) (n : ¬ Own ρ σ a) (h : H a = some o) : ¬ Own ρ1 σ1 a := fun z => by
  rcases s.own a z with z | z
  · exact n z
  · rw [h] at z; cases z
theorem Step.wiped {pl : List Nat} (s : Step pl ρ σ H ρ1 σ1 H1) : Step [] ρ σ H (wipeE ρ1 vs) (L2.wipe σ1 vs) H1 :=
  ⟨s.keep, s.trk, fun a h => s.own a (own_le h), fun i hi => by cases hi⟩
theorem own_back {a : Addr} (e : EnvR K ρ σ H) (hl : ρ.length = ρ1.length) (h : Own (backE ρ ρ1 vs) σ a) : (∃ w, H a = some (.lst w)) ∨ Own (wipeE ρ1 vs) (L2.wipe σ vs) a := by
  obtain ⟨j, xs, h1, h2⟩ := h
  by_cases hj : j ∈ vs
  · rw [backE_get hl, if_pos hj] at h1
    exact .inl (e.ownLst ⟨j, xs, h1, h2⟩)
  · rw [backE_get hl, if_neg hj] at h1
    exact .inr ⟨j, xs, by rw [wipeE_get hj]; exact h1, by rw [wipe_get hj]; exact h2⟩
end
/-- one element's state within a comprehension -/
structure LcI (K : PySem.W.Frag) (own : List Nat) (σ : St) (L : Addr) (ρ1 : DL.Env) (H1 : Hp) (ρ' : DL.Env) (acc : List D) (H' : Hp) : Prop where
  e : EnvR K (wipeE ρ' own) (L2.wipe σ own) H'
  s : Step [] (wipeE ρ1 own) (L2.wipe σ own) H1 (wipeE ρ' own) (L2.wipe σ own) H'
  n : ¬ Own (wipeE ρ' own) (L2.wipe σ own) L
  l : ∃ vacc, H' L = some (.lst vacc) ∧ VRs K H' acc vacc
theorem LcI.next {K : PySem.W.Frag} {own : List Nat} {σ σ3 : St} {L : Addr} {ρ1 ρ2 ρ3 ρ4 : DL.Env} {H1 H2 H3 H4 : Hp} {acc : List D} (h : LcI K own σ L ρ1 H1 ρ2 acc H2) (g : Gr H2 H3) (f : Step [] (wipeE ρ2 own) (L2.wipe σ own) H3 ρ3 σ3 H3)
    (hw : L2.wipe σ3 own = L2.wipe σ own) (e4 : EnvR K ρ4 σ3 H4) (s : Step [] ρ3 σ3 H3 ρ4 σ3 H4) : LcI K own σ L ρ1 H1 ρ4 acc H4 := by
  obtain ⟨vacc, l1, l2⟩ := h.l
  have S3 : Step [] (wipeE ρ2 own) (L2.wipe σ own) H2 (wipeE ρ2 own) (L2.wipe σ own) H3 := Step.heap g.keep
  have S24 := (S3.trans f).trans s
  have l4 := S24.keep L _ l1 h.n
  refine ⟨?_, ?_, ?_, ⟨vacc, l4, l2.ext (S24.ext h.e)⟩⟩
  · have := e4.wiped (vs := own)
    rw [hw] at this
    exact this
  · have := (h.s.trans S24).wiped (vs := own)
    rw [hw] at this
    exact this
  · intro z
    rw [← hw] at z
    exact S24.own' h.n l1 (own_le z)
theorem LcI.push {K : PySem.W.Frag} {own : List Nat} {σ : St} {L : Addr} {ρ1 ρ4 : DL.Env} {H1 H4 : Hp} {acc : List D} {d : D} {v : V} (hL : H1 L = none) (h : LcI K own σ L ρ1 H1 ρ4 acc H4) (r : VR K H4 d v) :
    ∃ vacc, H4 L = some (.lst vacc) ∧ acc.length = vacc.length ∧ LcI K own σ L ρ1 H1 ρ4 (acc ++ [d]) (upd H4 L (.lst (vacc ++ [v]))) := by
  obtain ⟨vacc, l1, l2⟩ := h.l
  obtain ⟨g1, g2⟩ := h.e.updNew (ws := vacc ++ [v]) l1 h.n
  exact ⟨vacc, l1, l2.length, g1, h.s.frzNew hL, h.n, ⟨_, upd_same, (l2.ext g2).append (.cons (r.ext g2) .nil)⟩⟩
/-- the reading of a comprehension -/
theorem lc_reads {K : PySem.W.Frag} {pl : List Nat} {W : WX} {it : RM} {t : Tg} {tt : RT} {te : RE} {own : List Nat} (ht : ∀ i ∈ tgI t, i ∈ own) {σ : St} {H : Hp} {Q : VK} (h : mOf K pl W (mLc it own t tt te) σ H Q) :
    tLc (iOf K pl W it) (gOf K t) (tDb K [] W0 tt) (tD K [] W0 te) own σ H Q := by
  obtain ⟨ρ, hE, hP⟩ := h
  refine bindM hE hP fun xs ρ1 J H1 E1 S1 r1 hP1 => ?_
  intro L hL
  have nL : ∀ {ρ' : DL.Env} {σ' : St}, EnvR K ρ' σ' H1 → ¬ Own ρ' σ' L := fun {ρ' σ'} e z => by
    obtain ⟨vs, q⟩ := e.ownLst z
    rw [hL] at q; cases q
  have hin := E1.wiped (vs := own)
  have kp0 := upd_keep (o := .lst []) hL
  refine ⟨fun i m H' => m = xs.length - i ∧ i ≤ xs.length ∧ ∃ ρ' acc, LcI K own σ L ρ1 H1 ρ' acc H' ∧
      PostM K pl W ((lcF own t tt te (xs.drop i) acc ρ').bind fun ys ρ'' => .ok ys (backE ρ1 ρ'' own)) ρ1 σ H1 Q,
    ⟨xs.length, by simp, Nat.zero_le _, wipeE ρ1 own, [], ⟨?_, ?_, ?_, [], upd_same, .nil⟩, by rw [List.drop_zero]; exact hP1⟩, ?_⟩
  · rw [wipeE_idem]
    exact hin.heap kp0
  · rw [wipeE_idem]
    exact Step.heap kp0
  · rw [wipeE_idem]
    exact nL hin
  rintro i m H2 ⟨rfl, hil, ρ2, acc, I2, hP2⟩
  have X2 : Ext H1 H2 := I2.s.ext hin
  obtain ⟨g1, g2⟩ := r1 i H2 X2
  by_cases hlt : i < xs.length
  · obtain ⟨d, hd⟩ : ∃ d, xs[i]? = some d := ⟨xs[i], List.getElem?_eq_getElem hlt⟩
    obtain ⟨go, yl⟩ := g1 d hd
    have hdr : xs.drop i = d :: xs.drop (i + 1) := by
      rw [List.drop_eq_getElem_cons hlt]
      have := (List.getElem?_eq_some_iff.mp hd).2
      rw [this]
    rw [hdr] at hP2
    refine .inr ⟨go, fun H' => ∃ ρ' acc, LcI K own σ L ρ1 H1 ρ' acc H' ∧
      PostM K pl W ((lcF own t tt te (xs.drop (i + 1)) acc ρ').bind fun ys ρ'' => .ok ys (backE ρ1 ρ'' own)) ρ1 σ H1 Q,
      fun H' q => ⟨xs.length - (i + 1), by omega, rfl, hlt, q⟩, fun v H3 hy => ?_⟩
    obtain ⟨gr, rv⟩ := yl v H3 hy
    have E3 := I2.e.heap gr.keep
    unfold lcF at hP2
    cases q : t.sto d (wipeE ρ2 own) with
    | none => simp only [q] at hP2; exact hP2.elim
    | some ρ3 =>
      simp only [q] at hP2
      obtain ⟨σ3, f1, f2, f3, f4⟩ := sto_ok (pl := []) E3 rv q (fun _ _ h => by cases h)
      have hw3 : L2.wipe σ3 own = L2.wipe σ own := by rw [f4 own ht, wipe_idem]
      refine ⟨σ3, f1, by rw [hw3], ρ3, f2, ?_⟩
      cases q4 : tt ρ3 with
      | bad => simp only [q4, noX, Res.bind_bad] at hP2; exact hP2.elim
      | exc z ρ4 => simp only [q4, noX, Res.bind_bad] at hP2; exact hP2.elim
      | ok k ρ4 =>
        simp only [q4, noX, Res.bind_ok] at hP2
        rintro b H4 E4 S4 rfl
        have I4 := I2.next gr f3 hw3 E4 S4
        cases k with
        | false =>
          simp only [Bool.false_eq_true, if_false] at hP2 ⊢
          exact ⟨ρ4, acc, I4, hP2⟩
        | true =>
          simp only [if_true] at hP2 ⊢
          refine ⟨ρ4, E4, ?_⟩
          cases q5 : te ρ4 with
          | bad => simp only [q5, noX, Res.bind_bad] at hP2; exact hP2.elim
          | exc z ρ5 => simp only [q5, noX, Res.bind_bad] at hP2; exact hP2.elim
          | ok y ρ5 =>
            simp only [q5, noX, Res.bind_ok] at hP2
            intro w H5 E5 S5 r5
            have I5 := I2.next gr f3 hw3 E5 (S4.trans S5)
            obtain ⟨vacc, p1, p2, p3⟩ := I5.push hL r5
            by_cases hz : acc.length < szL
            · rw [if_pos hz] at hP2
              exact ⟨vacc, p1, by rw [← p2, ← szL_line]; exact hz, ρ5, acc ++ [y], p3, hP2⟩
            · rw [if_neg hz] at hP2
              exact hP2.elim
  · have hE0 : xs.drop i = [] := List.drop_eq_nil_of_le (by omega)
    rw [hE0] at hP2
    refine .inl ⟨g2 (by omega), ?_⟩
    obtain ⟨b1, b2⟩ := E1.back I2.e I2.s X2
    obtain ⟨vacc, l1, l2⟩ := I2.l
    refine hP2 L vacc H2 b1 ⟨b2.keep, b2.trk, b2.own, fun _ _ => rfl⟩ l1 l2 (fun z => ?_) hL
    have hl : ρ1.length = ρ2.length := by
      have h1 := I2.e.len
      rw [wipeE_len, L2.wipe_length] at h1
      rw [h1]; exact E1.len
    rcases own_back E1 hl z with ⟨w, z⟩ | z
    · rw [hL] at z; cases z
    · exact I2.n z
section
variable {X : Cx} {pl : List Nat} {W : WX} {pos spos py : Pos} {elt tg iter : Expr} {ifs : List Expr} {scope : Scope} {own : List (Str × Nat)} {it : RM} {t : Tg} {tt : RT} {te : RE}
theorem dm_lc (hc : X.calm = true) (hN : X.N.Nodup) (hi : DI X pl W tg iter it) (ok : BlkOk X.N X.env.scope scope own) (ho : ∀ i ∈ tgI t, i ∈ own.map (·.2))
    (hg : ∀ (s : Shared) (H : Hp) (C : Addr) (cl : List (Str × Addr)) (fp : List Addr), DG (X.blk s H scope (compEnvC scope cl C X.env) fp) tg t)
    (ht : ∀ (s : Shared) (H : Hp) (C : Addr) (cl : List (Str × Addr)) (fp : List Addr), DTs (X.blk s H scope (compEnvC scope cl C X.env) fp) [] W0 ifs tt)
    (he : ∀ (s : Shared) (H : Hp) (C : Addr) (cl : List (Str × Addr)) (fp : List Addr), DE (X.blk s H scope (compEnvC scope cl C X.env) fp) [] W0 elt te)
    (hs : ∀ x, foldedSetIterable iter X.env x = pure x) : DM X pl W (.ListComp elt [⟨tg, iter, ifs, 0⟩] scope pos) (mLc it (own.map (·.2)) t tt te) :=
  ⟨pe_imp (pe_lc hc hN hi.h ok (fun s H C cl fp => (hg s H C cl fp).h) (fun s H C cl fp => (ht s H C cl fp).h) (fun s H C cl fp => (he s H C cl fp).h) hs) fun σ H Q h => lc_reads ho h⟩
end
end
end DL
/-! DLG: calls, the contract of a def. -/
namespace DL
noncomputable section
open PySem PySem.Spec PyProof.Rows L2

/-! ### the contract -/
def PostF (K : PySem.W.Frag) (r : Res Ret) (as : DL.Env) (vs : List V) (H : Hp) (Q : VK) (E : XK) : Prop := match r with
  | .ok (.v d) as' => ∀ v H', EnvR K as' (vs.map some) H' → Step [] as (vs.map some) H as' (vs.map some) H' → VR K H' d v → Q v H'
  | .ok (.o xs) as' => ∀ a ws H', EnvR K as' (vs.map some) H' → Step [] as (vs.map some) H as' (vs.map some) H' → H' a = some (.lst ws) → VRs K H' xs ws → ¬ Own as' (vs.map some) a → H a = none → Q (.ref a) H'
  | .exc x as' => ∀ cls dd H', EnvR K as' (vs.map some) H' → Step [] as (vs.map some) H as' (vs.map some) H' → XR K H' x cls dd → E cls dd H'
  | .bad => False
def spD (K : PySem.W.Frag) (n : Nat) (F : Fn) : Sp := fun vs H Q E => ∃ as, as.length = n ∧ EnvR K as (vs.map some) H ∧ PostF K (F as) as vs H Q E
theorem spD_len {K : PySem.W.Frag} {n : Nat} {F : Fn} (vs : List V) (H : Hp) (Q : VK) (E : XK) (h : spD K n F vs H Q E) : vs.length = n := by
  obtain ⟨as, h1, h2, _⟩ := h
  have := h2.len
  rw [List.length_map] at this
  rw [← this, h1]

/-! ### the body -/
section
variable {K : PySem.W.Frag} {as ρ' : DL.Env} {σ' : St} {vs : List V} {H H' : Hp} {m : Nat}
theorem get_app_no {j : Nat} {s : DL.Slot} (hs : s ≠ .no) (h : (as ++ List.replicate m (.no : DL.Slot))[j]? = some s) : as[j]? = some s ∧ j < as.length := by
  by_cases hj : j < as.length
  · rw [List.getElem?_append_left hj] at h
    exact ⟨h, hj⟩
  · rw [List.getElem?_append_right (by omega)] at h
    rw [List.getElem?_replicate] at h
    split at h
    · cases h; exact absurd rfl hs
    · cases h
theorem get_start {j : Nat} (hj : j < vs.length) : (vs.map some ++ List.replicate m (none : Option V))[j]? = (vs.map some)[j]? := List.getElem?_append_left (by rw [List.length_map]; exact hj)
theorem EnvR.start (e : EnvR K as (vs.map some) H) : EnvR K (as ++ List.replicate m .no) (vs.map some ++ List.replicate m none) H := by
  have hl : as.length = vs.length := by have := e.len; rw [List.length_map] at this; exact this
  refine ⟨by simp [hl], fun j d hj => ?_, fun j xs hj => ?_, fun j k xs ys a h1 h2 h3 h4 => ?_⟩
  · obtain ⟨h1, h2⟩ := get_app_no (by simp) hj
    rw [get_start (by omega)]
    exact e.val j d h1
  · obtain ⟨h1, h2⟩ := get_app_no (by simp) hj
    rw [get_start (by omega)]
    exact e.own j xs h1
  · obtain ⟨g1, g2⟩ := get_app_no (by simp) h1
    obtain ⟨g3, g4⟩ := get_app_no (by simp) h2
    rw [get_start (by omega)] at h3 h4
    exact e.dist j k xs ys a g1 g3 h3 h4
theorem own_start (hl : as.length = vs.length) {a : Addr} : Own (as ++ List.replicate m .no) (vs.map some ++ List.replicate m none) a ↔ Own as (vs.map some) a := by
  constructor
  · rintro ⟨j, xs, h1, h2⟩
    obtain ⟨g1, g2⟩ := get_app_no (by simp) h1
    rw [get_start (by omega)] at h2
    exact ⟨j, xs, g1, h2⟩
  · rintro ⟨j, xs, h1, h2⟩
    have hj : j < as.length := (List.getElem?_eq_some_iff.mp h1).1
    exact ⟨j, xs, by rw [List.getElem?_append_left hj]; exact h1, by rw [get_start (by omega)]; exact h2⟩
theorem keepO_len : ∀ (own : List Bool) (ρ : DL.Env), (keepO own ρ).length = own.length
  | [], _ => rfl
  | true :: r, [] => by simp [keepO, keepO_len r []]
  | false :: r, [] => by simp [keepO, keepO_len r []]
  | true :: r, s :: ρ => by simp [keepO, keepO_len r ρ]
  | false :: r, s :: ρ => by simp [keepO, keepO_len r ρ]
theorem keepO_get {s : DL.Slot} (hs : s ≠ .no) : ∀ {own : List Bool} {ρ : DL.Env} {j : Nat}, (keepO own ρ)[j]? = some s → own[j]? = some true ∧ ρ[j]? = some s
  | [], _, _, h => by simp [keepO] at h
  | true :: r, [], 0, h => by simp [keepO] at h; exact absurd h.symm hs
  | true :: r, [], j + 1, h => by
    have := keepO_get hs (own := r) (ρ := []) (j := j) (by simpa [keepO] using h)
    simp at this
  | false :: r, [], 0, h => by simp [keepO] at h; exact absurd h.symm hs
  | false :: r, [], j + 1, h => by
    have := keepO_get hs (own := r) (ρ := []) (j := j) (by simpa [keepO] using h)
    simp at this
  | true :: r, t :: ρ, 0, h => by simp [keepO] at h; simp [h]
  | false :: r, t :: ρ, 0, h => by simp [keepO] at h; exact absurd h.symm hs
  | true :: r, t :: ρ, j + 1, h => by
    have := keepO_get hs (own := r) (ρ := ρ) (j := j) (by simpa [keepO] using h)
    simpa using this
  | false :: r, t :: ρ, j + 1, h => by
    have := keepO_get hs (own := r) (ρ := ρ) (j := j) (by simpa [keepO] using h)
    simpa using this
def ownIx : List Bool → Nat → List Nat
  | [], _ => []
  | true :: r, i => i :: ownIx r (i + 1)
  | false :: r, i => ownIx r (i + 1)
theorem ownIx_mem : ∀ {own : List Bool} {i j : Nat}, own[j]? = some true → i + j ∈ ownIx own i
  | [], _, _, h => by simp at h
  | true :: r, i, 0, h => by simp [ownIx]
  | false :: r, i, 0, h => by simp at h
  | true :: r, i, j + 1, h => by
    have := ownIx_mem (own := r) (i := i + 1) (j := j) (by simpa using h)
    simp only [ownIx, List.mem_cons]
    right
    have e : i + (j + 1) = i + 1 + j := by omega
    rw [e]; exact this
  | false :: r, i, j + 1, h => by
    have := ownIx_mem (own := r) (i := i + 1) (j := j) (by simpa using h)
    simp only [ownIx]
    have e : i + (j + 1) = i + 1 + j := by omega
    rw [e]; exact this
/-- behind a body: the caller's view -/
theorem body_end {own : List Bool} (hl : as.length = vs.length) (ho : own.length = vs.length) (e : EnvR K ρ' σ' H') (s : Step (ownIx own 0) (as ++ List.replicate m .no) (vs.map some ++ List.replicate m none) H ρ' σ' H') :
    EnvR K (keepO own ρ') (vs.map some) H' ∧ Step [] as (vs.map some) H (keepO own ρ') (vs.map some) H' ∧ ∀ a, Own (keepO own ρ') (vs.map some) a → Own ρ' σ' a := by
  have sg : ∀ {j : Nat}, own[j]? = some true → σ'[j]? = (vs.map some)[j]? := fun {j} h => by
    have h1 := s.prot j (by have := ownIx_mem (i := 0) h; rwa [Nat.zero_add] at this)
    have hj : j < own.length := (List.getElem?_eq_some_iff.mp h).1
    rw [h1, get_start (by omega)]
  have toO : ∀ a, Own (keepO own ρ') (vs.map some) a → Own ρ' σ' a := fun a ⟨j, xs, h1, h2⟩ => by
    obtain ⟨g1, g2⟩ := keepO_get (by simp) h1
    exact ⟨j, xs, g2, by rw [sg g1]; exact h2⟩
  refine ⟨⟨by rw [keepO_len, List.length_map, ho], fun j d hj => ?_, fun j xs hj => ?_, fun j k xs ys a h1 h2 h3 h4 => ?_⟩, ⟨fun a o h n => s.keep a o h fun z => n ((own_start hl).mp z), s.trk, fun a h => ?_, fun _ h => by cases h⟩, toO⟩
  · obtain ⟨g1, g2⟩ := keepO_get (by simp) hj
    rw [← sg g1]
    exact e.val j d g2
  · obtain ⟨g1, g2⟩ := keepO_get (by simp) hj
    rw [← sg g1]
    exact e.own j xs g2
  · obtain ⟨g1, g2⟩ := keepO_get (by simp) h1
    obtain ⟨g3, g4⟩ := keepO_get (by simp) h2
    rw [← sg g1] at h3
    rw [← sg g3] at h4
    exact e.dist j k xs ys a g2 g4 h3 h4
  · rcases s.own a (toO a h) with z | z
    · exact .inl ((own_start hl).mp z)
    · exact .inr z
end
abbrev EndsF (Q : VK) : Ends := { nx := fun _ H' => Q .non H', rt := Q }
/-- the body's reading, from the contract -/
theorem body_reads {K : PySem.W.Frag} {own : List Bool} {N : List Str} {body : RS} {vs : List V} {H : Hp} {Q : VK} {E : XK} (h : spD K own.length (fnF own N.length body) vs H Q E) :
    sOf K (ownIx own 0) (fun cls dd _ H' => E cls dd H') body (EndsF Q) (L2.start N vs) H := by
  obtain ⟨as, hn, he, hp⟩ := h
  have hl : as.length = vs.length := by have := he.len; rw [List.length_map] at this; exact this
  have ho : own.length = vs.length := by omega
  refine ⟨as ++ List.replicate (N.length - as.length) .no, ?_, ?_⟩
  · unfold L2.start
    rw [← hl]
    exact he.start
  unfold L2.start
  rw [← hl]
  unfold fnF at hp
  cases q : body (as ++ List.replicate (N.length - as.length) .no) with
  | bad => rw [q] at hp; exact hp
  | exc x ρ' =>
    rw [q] at hp
    intro cls dd σ' H' e st rr
    obtain ⟨g1, g2, g3⟩ := body_end hl ho e st
    exact hp cls dd H' g1 g2 rr
  | ok f ρ' =>
    rw [q] at hp
    cases f with
    | nx =>
      intro σ' H' e st
      obtain ⟨g1, g2, g3⟩ := body_end hl ho e st
      exact hp .non H' g1 g2 .non
    | rt d =>
      intro v σ' H' e st r
      obtain ⟨g1, g2, g3⟩ := body_end hl ho e st
      exact hp v H' g1 g2 r
    | ro xs =>
      intro a ws σ' H' e st h1 h2 h3 h4
      obtain ⟨g1, g2, g3⟩ := body_end hl ho e st
      exact hp a ws H' g1 g2 h1 h2 (fun z => h3 (g3 a z)) h4
    | bk => exact hp.elim
    | ct => exact hp.elim

/-! ### arguments -/
inductive ArgsR (K : PySem.W.Frag) (σ : St) (H : Hp) : List Ag → List D → List V → Prop
  | nil : ArgsR K σ H [] [] []
  | e {a : RE} {r : List Ag} {d : D} {ds : List D} {v : V} {vs : List V} : VR K H d v → ArgsR K σ H r ds vs → ArgsR K σ H (.e a :: r) (d :: ds) (v :: vs)
  | o {i : Nat} {r : List Ag} {ds : List D} {a : Addr} {vs : List V} : σ[i]? = some (some (.ref a)) → ArgsR K σ H r ds vs → ArgsR K σ H (.o i :: r) ds (.ref a :: vs)
def agF : List Ag → DL.Env → Res (List D)
  | [], ρ => .ok [] ρ
  | .e a :: r, ρ => (a ρ).bind fun x ρ => (agF r ρ).bind fun xs ρ => .ok (x :: xs) ρ
  | .o i :: r, ρ => if isO ρ i then agF r ρ else .bad
structure DA (X : Cx) (pl : List Nat) (W : WX) (es : List Expr) (as : List Ag) : Prop where
  h : PA X es (fun σ H Q => tOfG (fun H ds vs => ArgsR X.K σ H as ds vs) X.K pl W (agF as) σ H Q)
section
variable {X : Cx} {pl : List Nat} {W : WX} {e : Expr} {es : List Expr} {fa : RE} {as : List Ag}
theorem da_nil : DA X pl W [] [] := ⟨pa_imp pa_nil fun σ H Q ⟨ρ, hE, hP⟩ => hP [] H hE .refl .nil⟩
theorem da_e (h : DE X pl W e fa) (hr : DA X pl W es as) (hs : starEach (e :: es) X.env = (false, eval e X.env) :: starEach es X.env) : DA X pl W (e :: es) (.e fa :: as) := by
  refine ⟨pa_imp (pa_cons h.h hr.h hs) fun σ H Q ⟨ρ, hE, hP⟩ => ?_⟩
  refine bindG hE hP fun x ρ1 y H1 E1 X1 r1 hP1 => ?_
  refine bindG (R := fun H ds vs => ArgsR X.K σ H as ds vs) E1 hP1 fun xs ρ2 ys H2 E2 X2 r2 hP2 => ?_
  exact hP2 _ H2 E2 .refl (.e (r1.ext X2) r2)
theorem da_o {i : Nat} {x : Str} {pos : Pos} (h : PE X (.Name x pos) (tVar i)) (hr : DA X pl W es as) (hs : starEach (.Name x pos :: es) X.env = (false, eval (.Name x pos) X.env) :: starEach es X.env) : DA X pl W (.Name x pos :: es) (.o i :: as) := by
  refine ⟨pa_imp (pa_cons h hr.h hs) fun σ H Q ⟨ρ, hE, hP⟩ => ?_⟩
  unfold agF at hP
  by_cases h0 : isO ρ i = true
  · rw [if_pos h0] at hP
    obtain ⟨xs0, h0⟩ := isO_get h0
    obtain ⟨p, vs0, g1, g2, g3⟩ := hE.own i xs0 h0
    refine ⟨.ref p, g1, ρ, hE, ?_⟩
    cases q : agF as ρ with
    | bad => rw [q] at hP; exact hP
    | exc z ρ1 => rw [q] at hP; exact hP
    | ok ds ρ1 =>
      rw [q] at hP
      exact fun vs H1 e1 s1 r1 => hP _ H1 e1 s1 (.o g1 r1)
  · rw [if_neg h0] at hP
    exact hP.elim
end
def agO : List Ag → List Nat
  | [] => []
  | .e _ :: r => agO r
  | .o i :: r => i :: agO r
/-! what the callee's frame is -/
section
variable {K : PySem.W.Frag} {σ : St} {H H' : Hp} {ρ s s' ρ' : DL.Env} {pl : List Nat}
theorem slots_get : ∀ {as : List Ag} {ds : List D} {vs : List V} {s : DL.Env}, EnvR K ρ σ H → ArgsR K σ H as ds vs → slotsF as ds ρ = some s →
    s.length = vs.length ∧ (∀ (j : Nat) (d : D), s[j]? = some (.v d) → ∃ v, (vs.map some)[j]? = some (some v) ∧ VR K H d v) ∧
      (∀ (j : Nat) (xs : List D), s[j]? = some (.o xs) → ∃ i a, as[j]? = some (.o i) ∧ i ∈ agO as ∧ ρ[i]? = some (.o xs) ∧ σ[i]? = some (some (.ref a)) ∧ (vs.map some)[j]? = some (some (.ref a)))
  | _, _, _, _, e, .nil, h => by
    cases h
    exact ⟨rfl, fun j d hj => by simp at hj, fun j d hj => by simp at hj⟩
  | _, _, _, _, e, .e (r := r) (d := d) (ds := ds) (v := v) (vs := vs) rv rs, h => by
    obtain ⟨t, h1, h2⟩ := Option.map_eq_some_iff.mp h
    subst h2
    obtain ⟨g1, g2, g3⟩ := slots_get e rs h1
    refine ⟨by simp [g1], fun j d' hj => ?_, fun j xs hj => ?_⟩
    · cases j with
      | zero =>
        simp at hj
        subst hj
        exact ⟨v, rfl, rv⟩
      | succ j => exact g2 j d' (by simpa using hj)
    · cases j with
      | zero => simp at hj
      | succ j =>
        obtain ⟨i, a, q1, q2, q3, q4, q5⟩ := g3 j xs (by simpa using hj)
        exact ⟨i, a, by simpa using q1, q2, q3, q4, by simpa using q5⟩
  | _, _, _, _, e, .o (i := i) (r := r) (ds := ds) (a := a) (vs := vs) hi rs, h => by
    unfold slotsF at h
    cases q : ρ.getD i .no with
    | no => simp only [q] at h; cases h
    | v d => simp only [q] at h; cases h
    | o ys =>
      simp only [q] at h
      obtain ⟨t, h1, h2⟩ := Option.map_eq_some_iff.mp h
      subst h2
      obtain ⟨g1, g2, g3⟩ := slots_get e rs h1
      refine ⟨by simp [g1], fun j d' hj => ?_, fun j xs hj => ?_⟩
      · cases j with
        | zero => simp at hj
        | succ j => exact g2 j d' (by simpa using hj)
      · cases j with
        | zero =>
          simp at hj
          subst hj
          exact ⟨i, a, rfl, by simp [agO], slot_get q (by simp), hi, rfl⟩
        | succ j =>
          obtain ⟨i', a', q1, q2, q3, q4, q5⟩ := g3 j xs (by simpa using hj)
          exact ⟨i', a', by simpa using q1, by simp [agO, q2], q3, q4, by simpa using q5⟩
theorem agO_get : ∀ {as : List Ag} {j i : Nat}, as[j]? = some (.o i) → i ∈ agO as
  | [], _, _, h => by simp at h
  | .e _ :: r, 0, _, h => by simp at h
  | .o k :: r, 0, i, h => by simp at h; subst h; simp [agO]
  | .e _ :: r, j + 1, i, h => by simpa [agO] using agO_get (as := r) (j := j) (by simpa using h)
  | .o k :: r, j + 1, i, h => by simp [agO]; right; exact agO_get (as := r) (j := j) (by simpa using h)
theorem agO_inj : ∀ {as : List Ag}, (agO as).Nodup → ∀ {j k i : Nat}, as[j]? = some (.o i) → as[k]? = some (.o i) → j = k
  | [], _, _, _, _, h, _ => by simp at h
  | .e _ :: r, hn, j, k, i, h1, h2 => by
    cases j with
    | zero => simp at h1
    | succ j =>
      cases k with
      | zero => simp at h2
      | succ k => rw [agO_inj (as := r) hn (j := j) (k := k) (i := i) (by simpa using h1) (by simpa using h2)]
  | .o m :: r, hn, j, k, i, h1, h2 => by
    have hn' := List.nodup_cons.mp (show (m :: agO r).Nodup from hn)
    cases j with
    | zero =>
      cases k with
      | zero => rfl
      | succ k =>
        simp at h1
        subst h1
        exact absurd (agO_get (as := r) (j := k) (by simpa using h2)) hn'.1
    | succ j =>
      cases k with
      | zero =>
        simp at h2
        subst h2
        exact absurd (agO_get (as := r) (j := j) (by simpa using h1)) hn'.1
      | succ k => rw [agO_inj (as := r) hn'.2 (j := j) (k := k) (i := i) (by simpa using h1) (by simpa using h2)]
/-- the callee's frame -/
theorem EnvR.callee {as : List Ag} {ds : List D} {vs : List V} (e : EnvR K ρ σ H) (r : ArgsR K σ H as ds vs) (h : slotsF as ds ρ = some s) (hn : (agO as).Nodup) :
    EnvR K s (vs.map some) H ∧ ∀ a, Own s (vs.map some) a → ∃ (i : Nat) (xs : List D), i ∈ agO as ∧ ρ[i]? = some (.o xs) ∧ σ[i]? = some (some (.ref a)) := by
  obtain ⟨g1, g2, g3⟩ := slots_get e r h
  refine ⟨⟨by rw [List.length_map]; exact g1, g2, fun j xs hj => ?_, fun j k xs ys a h1 h2 h3 h4 => ?_⟩, fun a ⟨j, xs, h1, h2⟩ => ?_⟩
  · obtain ⟨i, a, q1, q2, q3, q4, q5⟩ := g3 j xs hj
    obtain ⟨b, ws, b1, b2, b3⟩ := e.own i xs q3
    rw [q4] at b1
    cases b1
    exact ⟨a, ws, q5, b2, b3⟩
  · obtain ⟨i, a1, q1, q2, q3, q4, q5⟩ := g3 j xs h1
    obtain ⟨i', a2, p1, p2, p3, p4, p5⟩ := g3 k ys h2
    rw [q5] at h3
    rw [p5] at h4
    rw [Option.some.inj (Option.some.inj h3 |> fun z => by cases z; rfl : (some a1 : Option Addr) = some a)] at q4
    rw [Option.some.inj (Option.some.inj h4 |> fun z => by cases z; rfl : (some a2 : Option Addr) = some a)] at p4
    have := e.dist i i' xs ys a q3 p3 q4 p4
    subst this
    exact agO_inj hn q1 p1
  · obtain ⟨i, a1, q1, q2, q3, q4, q5⟩ := g3 j xs h1
    rw [q5] at h2
    cases h2
    exact ⟨i, xs, q2, q3, q4⟩
/-- what backF does -/
theorem back_get : ∀ {as : List Ag} {ds : List D} {vs : List V} {s' ρ ρ' : DL.Env}, ArgsR K σ H as ds vs → backF as s' ρ = some ρ' → (agO as).Nodup →
    ρ'.length = ρ.length ∧ (∀ i, i ∉ agO as → ρ'[i]? = ρ[i]?) ∧ (∀ i ∈ agO as, i < ρ.length → ∃ (j : Nat) (ys : List D), as[j]? = some (.o i) ∧ s'[j]? = some (.o ys) ∧ ρ'[i]? = some (.o ys) ∧ (vs.map some)[j]? = σ[i]?) ∧
      (∀ (j i : Nat), as[j]? = some (Ag.o i) → ∃ ys : List D, s'[j]? = some (Slot.o ys))
  | _, _, _, s', ρ, ρ', .nil, h, _ => by
    have : ρ = ρ' := by simpa [backF] using h
    subst this
    exact ⟨rfl, fun _ _ => rfl, fun i hi => by simp [agO] at hi, fun j i h => by simp at h⟩
  | _, _, _, s', ρ, ρ', .e (a := fa) (r := r) (d := d) (ds := ds) (v := v) (vs := vs) rv rs, h, hn => by
    cases s' with
    | nil => simp [backF] at h
    | cons t s' =>
      obtain ⟨g1, g2, g3, g4⟩ := back_get rs (show backF r s' ρ = some ρ' from by simpa [backF] using h) hn
      refine ⟨g1, g2, fun i hi hl => ?_, fun j i hj => ?_⟩
      · obtain ⟨j, ys, q1, q2, q3, q4⟩ := g3 i hi hl
        exact ⟨j + 1, ys, by simpa using q1, by simpa using q2, q3, by simpa using q4⟩
      · cases j with
        | zero => simp at hj
        | succ j => simpa using g4 j i (by simpa using hj)
  | _, _, _, s', ρ, ρ', .o (i := i) (r := r) (ds := ds) (a := a) (vs := vs) hi rs, h, hn => by
    have hn' := List.nodup_cons.mp (show (i :: agO r).Nodup from hn)
    cases s' with
    | nil => simp [backF] at h
    | cons t s' =>
      cases t with
      | no => simp [backF] at h
      | v d => simp [backF] at h
      | o ys =>
        obtain ⟨g1, g2, g3, g4⟩ := back_get rs (show backF r s' (ρ.set i (.o ys)) = some ρ' from by simpa [backF] using h) hn'.2
        rw [List.length_set] at g1
        refine ⟨g1, fun k hk => ?_, fun k hk hl => ?_, fun j k hj => ?_⟩
        · have hk' : k ≠ i ∧ k ∉ agO r := by simpa [agO] using hk
          rw [g2 k hk'.2, List.getElem?_set_ne (Ne.symm hk'.1)]
        · rcases List.mem_cons.mp (show k ∈ i :: agO r from hk) with z | z
          · subst z
            refine ⟨0, ys, rfl, rfl, ?_, ?_⟩
            · rw [g2 k hn'.1, List.getElem?_set_self hl]
            · simp [hi]
          · obtain ⟨j, ys', q1, q2, q3, q4⟩ := g3 k z (by rw [List.length_set]; exact hl)
            exact ⟨j + 1, ys', by simpa using q1, by simpa using q2, q3, by simpa using q4⟩
        · cases j with
          | zero => exact ⟨ys, rfl⟩
          | succ j => simpa using g4 j k (by simpa using hj)
/-- behind a call -/
theorem EnvR.called {as : List Ag} {ds : List D} {vs : List V} (e : EnvR K ρ σ H) (r : ArgsR K σ H as ds vs) (h : slotsF as ds ρ = some s) (hn : (agO as).Nodup) (hb : backF as s' ρ = some ρ')
    (e' : EnvR K s' (vs.map some) H') (st : Step [] s (vs.map some) H s' (vs.map some) H') :
    EnvR K ρ' σ H' ∧ Step pl ρ σ H ρ' σ H' ∧ ∀ a, ¬ Own s' (vs.map some) a → H a = none → ¬ Own ρ' σ a := by
  obtain ⟨c1, c2⟩ := EnvR.callee e r h hn
  obtain ⟨b1, b2, b3, b4⟩ := back_get r hb hn
  have x : Ext H H' := st.ext c1
  have back : ∀ {i : Nat} {xs : List D} {a : Addr}, ρ'[i]? = some (.o xs) → σ[i]? = some (some (.ref a)) → ∃ zs, ρ[i]? = some (.o zs) := fun {i xs a} h1 h2 => by
    by_cases hi : i ∈ agO as
    · have hl : i < ρ.length := by
        have := (List.getElem?_eq_some_iff.mp h1).1
        omega
      obtain ⟨j, ys, q1, q2, q3, q4⟩ := b3 i hi hl
      -- the slot was an own list at the call
      have : ∀ {as : List Ag} {ds : List D} {vs : List V} {s : DL.Env}, ArgsR K σ H as ds vs → slotsF as ds ρ = some s → i ∈ agO as → ∃ zs, ρ[i]? = some (.o zs) := by
        intro as
        induction as with
        | nil => intro ds vs s _ _ hi; simp [agO] at hi
        | cons g as ih =>
          intro ds vs s r h hi
          cases r with
          | e rv rs =>
            obtain ⟨t, h1, h2⟩ := Option.map_eq_some_iff.mp h
            exact ih rs h1 hi
          | o hi' rs =>
            rename_i k a0 vs0
            unfold slotsF at h
            cases q : ρ.getD k .no with
            | no => simp only [q] at h; cases h
            | v d => simp only [q] at h; cases h
            | o ys =>
              simp only [q] at h
              obtain ⟨t, h1, h2⟩ := Option.map_eq_some_iff.mp h
              rcases List.mem_cons.mp (show i ∈ k :: agO as from hi) with z | z
              · subst z
                exact ⟨ys, slot_get q (by simp)⟩
              · exact ih rs h1 z
      exact this r h hi
    · rw [b2 i hi] at h1
      exact ⟨xs, h1⟩
  have keepIn : ∀ {i : Nat} {xs : List D} {a : Addr} {o : HO}, i ∉ agO as → ρ[i]? = some (.o xs) → σ[i]? = some (some (.ref a)) → H a = some o → H' a = some o := fun {i xs a o} hi h1 h2 h3 => by
    refine st.keep a o h3 fun z => ?_
    obtain ⟨k, ys, k0, k1, k2⟩ := c2 a z
    have := e.dist i k xs ys a h1 k1 h2 k2
    subst this
    exact hi k0
  refine ⟨⟨by rw [b1]; exact e.len, fun i d hi => ?_, fun i xs hi => ?_, fun i k xs ys a h1 h2 h3 h4 => ?_⟩, ⟨fun a o h n => st.keep a o h fun z => ?_, st.trk, fun a ⟨i, xs, h1, h2⟩ => ?_, fun _ _ => rfl⟩, fun a n hf ⟨i, xs, h1, h2⟩ => ?_⟩
  · by_cases hm : i ∈ agO as
    · have hl : i < ρ.length := by
        have := (List.getElem?_eq_some_iff.mp hi).1
        omega
      obtain ⟨j, ys, q1, q2, q3, q4⟩ := b3 i hm hl
      rw [q3] at hi
      cases hi
    · rw [b2 i hm] at hi
      obtain ⟨v, h1, h2⟩ := e.val i d hi
      exact ⟨v, h1, h2.ext x⟩
  · by_cases hm : i ∈ agO as
    · have hl : i < ρ.length := by
        have := (List.getElem?_eq_some_iff.mp hi).1
        omega
      obtain ⟨j, ys, q1, q2, q3, q4⟩ := b3 i hm hl
      rw [q3] at hi
      cases hi
      obtain ⟨a, ws, p1, p2, p3⟩ := e'.own j xs q2
      exact ⟨a, ws, by rw [← q4]; exact p1, p2, p3⟩
    · rw [b2 i hm] at hi
      obtain ⟨a, ws, h1, h2, h3⟩ := e.own i xs hi
      exact ⟨a, ws, h1, keepIn hm hi h1 h2, h3.ext x⟩
  · obtain ⟨zs, g1⟩ := back h1 h3
    obtain ⟨zs', g2⟩ := back h2 h4
    exact e.dist i k zs zs' a g1 g2 h3 h4
  · obtain ⟨k, ys, k0, k1, k2⟩ := c2 a z
    exact n ⟨k, ys, k1, k2⟩
  · obtain ⟨zs, g1⟩ := back h1 h2
    exact .inl ⟨i, zs, g1, h2⟩
  · obtain ⟨zs, g1⟩ := back h1 h2
    obtain ⟨ws, q⟩ := e.ownLst ⟨i, zs, g1, h2⟩
    rw [hf] at q
    cases q
end
def callG (F : Fn) (as : List Ag) (ρ : DL.Env) : Res Ret := (agF as ρ).bind fun xs ρ => match slotsF as xs ρ with
  | some s => (match F s with
    | .ok r s' => (match backF as s' ρ with
      | some ρ' => .ok r ρ'
      | none => .bad)
    | .exc x s' => (match backF as s' ρ with
      | some ρ' => .exc x ρ'
      | none => .bad)
    | .bad => .bad)
  | none => .bad
def eCal (F : Fn) (as : List Ag) : RE := fun ρ => (callG F as ρ).bind fun r ρ => match r with
  | .v d => .ok d ρ
  | .o xs => .ok (.lst xs) ρ
def mCal (F : Fn) (as : List Ag) : RM := fun ρ => (callG F as ρ).bind fun r ρ => match r with
  | .v _ => .bad
  | .o xs => .ok xs ρ
section
variable {K : PySem.W.Frag} {pl : List Nat} {W : WX} {F : Fn} {as : List Ag} {n : Nat}
theorem args_len : ∀ {σ : St} {H : Hp} {as : List Ag} {ds : List D} {vs : List V}, ArgsR K σ H as ds vs → vs.length = as.length
  | _, _, _, _, _, .nil => rfl
  | _, _, _, _, _, .e _ r => congrArg Nat.succ (args_len r)
  | _, _, _, _, _, .o _ r => congrArg Nat.succ (args_len r)
theorem cal_reads (hn : (agO as).Nodup) (hl : as.length = n) : ∀ σ H Q, mOf K pl W (mCal F as) σ H Q → tOfG (fun H ds vs => ArgsR K σ H as ds vs) K pl W (agF as) σ H fun vs H1 => spD K n F vs H1 Q (WE W σ) := by
  rintro σ H Q ⟨ρ, hE, hP⟩
  unfold mCal callG at hP
  rw [Res.bind_assoc] at hP
  refine bindM (R := fun H ds vs => ArgsR K σ H as ds vs) hE hP fun xs ρ1 vs H1 E1 S1 r1 hP1 => ?_
  cases q : slotsF as xs ρ1 with
  | none => simp only [q] at hP1; exact hP1.elim
  | some s =>
    simp only [q] at hP1
    obtain ⟨c1, c2⟩ := EnvR.callee E1 r1 q hn
    refine ⟨s, by rw [c1.len, List.length_map, args_len r1, hl], c1, ?_⟩
    cases q2 : F s with
    | bad => simp only [q2] at hP1; exact hP1.elim
    | exc x s' =>
      simp only [q2] at hP1
      cases q3 : backF as s' ρ1 with
      | none => simp only [q3] at hP1; exact hP1.elim
      | some ρ' =>
        simp only [q3] at hP1
        intro cls dd H' e' st rr
        obtain ⟨g1, g2, g3⟩ := EnvR.called (pl := pl) E1 r1 q hn q3 e' st
        exact hP1 cls dd H' g1 g2 rr
    | ok r s' =>
      simp only [q2] at hP1
      cases q3 : backF as s' ρ1 with
      | none => simp only [q3] at hP1; exact hP1.elim
      | some ρ' =>
        simp only [q3, Res.bind_ok] at hP1
        cases r with
        | v d => exact hP1.elim
        | o ys =>
          intro a ws H' e' st h1 h2 h3 h4
          obtain ⟨g1, g2, g3⟩ := EnvR.called (pl := pl) E1 r1 q hn q3 e' st
          exact hP1 a ws H' g1 g2 h1 h2 (g3 a h3 h4) h4
theorem calE_reads (hn : (agO as).Nodup) (hl : as.length = n) : ∀ σ H Q, tD K pl W (eCal F as) σ H Q → tOfG (fun H ds vs => ArgsR K σ H as ds vs) K pl W (agF as) σ H fun vs H1 => spD K n F vs H1 (FrzQ Q) (WE W σ) := by
  rintro σ H Q ⟨ρ, hE, hP⟩
  unfold eCal callG at hP
  rw [Res.bind_assoc] at hP
  refine bindG (R := fun H ds vs => ArgsR K σ H as ds vs) hE hP fun xs ρ1 vs H1 E1 X1 r1 hP1 => ?_
  cases q : slotsF as xs ρ1 with
  | none => simp only [q] at hP1; exact hP1.elim
  | some s =>
    simp only [q] at hP1
    obtain ⟨c1, c2⟩ := EnvR.callee E1 r1 q hn
    refine ⟨s, by rw [c1.len, List.length_map, args_len r1, hl], c1, ?_⟩
    cases q2 : F s with
    | bad => simp only [q2] at hP1; exact hP1.elim
    | exc x s' =>
      simp only [q2] at hP1
      cases q3 : backF as s' ρ1 with
      | none => simp only [q3] at hP1; exact hP1.elim
      | some ρ' =>
        simp only [q3] at hP1
        intro cls dd H' e' st rr
        obtain ⟨g1, g2, g3⟩ := EnvR.called (pl := pl) E1 r1 q hn q3 e' st
        exact hP1 cls dd H' g1 g2 rr
    | ok r s' =>
      simp only [q2] at hP1
      cases q3 : backF as s' ρ1 with
      | none => simp only [q3] at hP1; exact hP1.elim
      | some ρ' =>
        simp only [q3, Res.bind_ok] at hP1
        cases r with
        | v d =>
          intro v H' e' st rr
          obtain ⟨g1, g2, g3⟩ := EnvR.called (pl := pl) E1 r1 q hn q3 e' st
          exact .inl (hP1 v H' g1 g2 rr)
        | o ys =>
          intro a ws H' e' st h1 h2 h3 h4
          obtain ⟨g1, g2, g3⟩ := EnvR.called (pl := pl) E1 r1 q hn q3 e' st
          refine .inr ⟨a, ws, rfl, h1, fun o => ?_⟩
          obtain ⟨f1, f2⟩ := g1.frzNew (o := o) h1 (g3 a h3 h4)
          exact hP1 _ _ f1 (g2.frzNew h4) (.lst ⟨o, upd_same⟩ (h2.ext f2))
end
section
variable {X : Cx} {pl : List Nat} {W : WX} {F : Fn} {as : List Ag} {n k : Nat} {f : Addr} {fd : FuncData} {ps : List Str} {x : Str} {p pos : Pos} {e : Expr} {es : List Expr}
theorem dm_call (G : FnOk X.prog X.w X.K X.mg X.base (L2.CX X.prog X.w) k f fd ps (spD X.K n F)) (hr : Room k X.A) (hg : Gl X x) (hm : X.mg x = some (.ref f)) (hk : PySem.W.keepIn X.K (.ref f) = true) (hb : Binds X.K fd ps [])
    (hx : ∀ σ, PassesAt (L2.CX X.prog X.w) X σ (WE W σ)) (ha : DA X pl W (e :: es) as) (hn : (agO as).Nodup) (hl : as.length = n) (hdb : (x == ("__debug__" : Str)) = false)
    (he : starEach (e :: es) X.env = (false, eval e X.env) :: starEach es X.env) (hpl : (backTo pos (starEach es X.env)).any (·.1) = false) : DM X pl W (.Call (.Name x p) (e :: es) [] pos) (mCal F as) :=
  ⟨pe_imp (pe_callS G hr hg hm hk hb hx ha.h hdb he hpl) fun σ H Q h => cal_reads hn hl σ H Q h⟩
theorem de_call (G : FnOk X.prog X.w X.K X.mg X.base (L2.CX X.prog X.w) k f fd ps (spD X.K n F)) (hr : Room k X.A) (hg : Gl X x) (hm : X.mg x = some (.ref f)) (hk : PySem.W.keepIn X.K (.ref f) = true) (hb : Binds X.K fd ps [])
    (hx : ∀ σ, PassesAt (L2.CX X.prog X.w) X σ (WE W σ)) (ha : DA X pl W (e :: es) as) (hn : (agO as).Nodup) (hl : as.length = n) (hdb : (x == ("__debug__" : Str)) = false)
    (he : starEach (e :: es) X.env = (false, eval e X.env) :: starEach es X.env) (hpl : (backTo pos (starEach es X.env)).any (·.1) = false) : DE X pl W (.Call (.Name x p) (e :: es) [] pos) (eCal F as) :=
  ⟨pe_imp (pe_frz (pe_callS G hr hg hm hk hb hx ha.h hdb he hpl)) fun σ H Q h => calE_reads hn hl σ H Q h⟩
end
end
end DL
/-! DLS: sorted of a list of tuples of ints. -/
namespace DL
noncomputable section
open PySem PySem.Spec PyProof.Rows L2

/-! ### plain: the order, the sort -/
def lexI : List Int → List Int → Bool
  | [], [] => false
  | [], _ :: _ => true
  | _ :: _, [] => false
  | x :: r, y :: t => decide (x < y) || (!decide (y < x) && lexI r t)
theorem lexI_irrefl : ∀ a, lexI a a = false
  | [] => rfl
  | x :: r => by
    show (decide (x < x) || (!decide (x < x) && lexI r r)) = false
    rw [lexI_irrefl r]
    simp
theorem lexI_total : ∀ {a b}, lexI a b = false → lexI b a = false → a = b
  | [], [], _, _ => rfl
  | [], _ :: _, h, _ => by cases h
  | _ :: _, [], _, h => by cases h
  | x :: r, y :: t, h, h2 => by
    simp only [lexI, Bool.or_eq_false_iff, decide_eq_false_iff_not, Bool.and_eq_false_iff, Bool.not_eq_false', decide_eq_true_eq] at h h2
    obtain ⟨h1, h3⟩ := h
    obtain ⟨h4, h5⟩ := h2
    have e : x = y := by omega
    subst e
    rcases h3 with h3 | h3
    · exact absurd h3 h4
    · rcases h5 with h5 | h5
      · exact absurd h5 h4
      · rw [lexI_total h3 h5]
theorem lexI_asym : ∀ {a b}, lexI a b = true → lexI b a = false
  | [], [], h => by cases h
  | [], _ :: _, _ => rfl
  | _ :: _, [], h => by cases h
  | x :: r, y :: t, h => by
    simp only [lexI, Bool.or_eq_true, decide_eq_true_eq, Bool.and_eq_true, Bool.not_eq_true', decide_eq_false_iff_not, Bool.or_eq_false_iff, Bool.and_eq_false_iff, Bool.not_eq_false'] at h ⊢
    rcases h with h | ⟨h, h'⟩
    · exact ⟨by omega, .inl h⟩
    · exact ⟨h, .inr (lexI_asym h')⟩
theorem lexI_negTr : ∀ {a b c}, lexI b a = false → lexI c b = false → lexI c a = false
  | [], [], [], _, _ => rfl
  | [], [], _ :: _, _, _ => rfl
  | [], _ :: _, [], _, h => by cases h
  | [], _ :: _, _ :: _, _, _ => rfl
  | _ :: _, [], [], h, _ => by cases h
  | _ :: _, [], _ :: _, h, _ => by cases h
  | _ :: _, _ :: _, [], _, h => by cases h
  | x :: r, y :: t, z :: u, h, h2 => by
    simp only [lexI, Bool.or_eq_false_iff, decide_eq_false_iff_not, Bool.and_eq_false_iff, Bool.not_eq_false', decide_eq_true_eq] at h h2 ⊢
    obtain ⟨h1, h3⟩ := h
    obtain ⟨h4, h5⟩ := h2
    refine ⟨by omega, ?_⟩
    rcases h3 with h3 | h3
    · exact .inl (by omega)
    · rcases h5 with h5 | h5
      · exact .inl (by omega)
      · exact .inr (lexI_negTr h3 h5)
def keyD : D → List Int
  | .tup xs => (ints? xs).getD []
  | _ => []
def isIntTup : D → Bool
  | .tup xs => (ints? xs).isSome
  | _ => false
def leD (a b : D) : Bool := !lexI (keyD b) (keyD a)
def sortT (xs : List D) : List D := xs.mergeSort leD
def sortableT (xs : List D) : Bool := xs.all isIntTup && (decide (xs.length < 2) || xs.all fun d => !(keyD d).isEmpty)
def bSorted : List D → Option D
  | [.lst xs] => if sortableT xs then some (.lst (sortT xs)) else none
  | _ => none
theorem ints_eq : ∀ {xs : List D} {ns : List Int}, ints? xs = some ns → xs = ns.map D.int
  | [], _, h => by cases h; rfl
  | .int i :: xs, ns, h => by
    obtain ⟨ms, h1, h2⟩ := Option.map_eq_some_iff.mp (show (ints? xs).map (fun r => i :: r) = some ns from h)
    subst h2
    rw [ints_eq h1]
    rfl
  | .non :: _, _, h => by cases h
  | .bl _ :: _, _, h => by cases h
  | .str _ :: _, _, h => by cases h
  | .tup _ :: _, _, h => by cases h
  | .lst _ :: _, _, h => by cases h
  | .obj _ _ _ :: _, _, h => by cases h
  | .scr _ :: _, _, h => by cases h
theorem intTup_eq {d : D} (h : isIntTup d = true) : d = .tup ((keyD d).map D.int) := by
  cases d with
  | tup xs =>
    obtain ⟨ns, h1⟩ := Option.isSome_iff_exists.mp (show (ints? xs).isSome = true from h)
    show D.tup xs = .tup (((ints? xs).getD []).map D.int)
    rw [h1]
    exact congrArg D.tup (ints_eq h1)
  | _ => cases h
theorem leD_trans : ∀ a b c : D, leD a b = true → leD b c = true → leD a c = true := fun a b c h1 h2 => by
  unfold leD at *
  rw [Bool.not_eq_true'] at *
  exact lexI_negTr h1 h2
theorem leD_total : ∀ a b : D, (leD a b || leD b a) = true := fun a b => by
  unfold leD
  cases h : lexI (keyD b) (keyD a) with
  | false => rfl
  | true => rw [lexI_asym h]; rfl
theorem sortT_perm (xs : List D) : (sortT xs).Perm xs := List.mergeSort_perm xs leD
theorem sortT_pw (xs : List D) : (sortT xs).Pairwise fun a b => leD a b = true := List.pairwise_mergeSort leD_trans leD_total xs
theorem sort_uniq {α : Type} {le : α → α → Prop} : ∀ {l m : List α}, l.Perm m → l.Pairwise le → m.Pairwise le → (∀ a ∈ l, ∀ b ∈ l, le a b → le b a → a = b) → l = m
  | [], m, h, _, _, _ => (List.Perm.eq_nil h.symm).symm
  | x :: l, [], h, _, _, _ => absurd h.length_eq (by simp)
  | x :: l, y :: m, h, h1, h2, ha => by
    have hy : y ∈ x :: l := h.mem_iff.mpr (List.mem_cons_self ..)
    have hx : x ∈ y :: m := h.mem_iff.mp (List.mem_cons_self ..)
    have e : x = y := by
      rcases List.mem_cons.mp hy with z | z
      · exact z.symm
      · rcases List.mem_cons.mp hx with z2 | z2
        · exact z2
        · exact ha x (List.mem_cons_self ..) y hy (List.rel_of_pairwise_cons h1 z) (List.rel_of_pairwise_cons h2 z2)
    subst e
    rw [sort_uniq h.cons_inv (List.pairwise_cons.mp h1).2 (List.pairwise_cons.mp h2).2 fun a ha' b hb => ha a (List.mem_cons_of_mem _ ha') b (List.mem_cons_of_mem _ hb)]

/-! ### in the heap -/
def sh0 : Nat → Bool := fun _ => false
def keyH (h : Heap) (u : Value) : List (Int ⊕ List Nat) := (G.tupKeyC h sh0 u).getD []
def ltH (h : Heap) (u v : Value) : Bool := lexLt itemOrd (keyH h u) (keyH h v)
theorem ltH_swo (h : Heap) : SrtO.Swo (ltH h) := by
  refine ⟨fun x y e => ?_, fun x y z e1 e2 => ?_⟩
  · cases q : ltH h y x with
    | false => rfl
    | true =>
      have := (listOrd itemOrd).trans _ _ _ e q
      rw [(listOrd itemOrd).irrefl] at this
      cases this
  · cases q : ltH h z x with
    | false => rfl
    | true =>
      rcases (listOrd itemOrd).negTrans (keyH h z) (keyH h y) (keyH h x) q with p | p
      · exact absurd p (by rw [show (listOrd itemOrd).blt (keyH h z) (keyH h y) = false from e2]; simp)
      · exact absurd p (by rw [show (listOrd itemOrd).blt (keyH h y) (keyH h x) = false from e1]; simp)
section
variable {prog : Program} {w : World} {A : Around} {E : Value → Shared → Prop} {s : Shared}
theorem tup_cmp {h : Heap} {vs : List Value} (k : G.KeepsTups h s.heap) (hk : ∀ v ∈ vs, ∃ l, G.tupKeyC h sh0 v = some l) : SrtO.Cmp prog w A s (tuples' true) (fun p => p.1 ∈ vs) (SrtO.lt2 (ltH h)) := by
  intro p q hp hq
  obtain ⟨as, h1⟩ := hk _ hp
  obtain ⟨bs, h2⟩ := hk _ hq
  refine G.tupC_ltAt (shape := sh0) true k A _ p.1 q.1 as bs h1 h2 ⟨rfl, ?_⟩
  show lexLt itemOrd as bs = lexLt itemOrd (keyH h p.1) (keyH h q.1)
  unfold keyH
  rw [h1, h2]
  rfl
theorem tups_first {h : Heap} : ∀ {vs : List Value}, (∀ v ∈ vs, ∃ l, G.tupKeyC h sh0 v = some l ∧ l ≠ []) → ∃ fs, TupsOf h sh0 vs fs
  | [], _ => ⟨[], .nil⟩
  | v :: vs, hv => by
    obtain ⟨fs, h1⟩ := tups_first (vs := vs) fun u hu => hv u (List.mem_cons_of_mem _ hu)
    obtain ⟨l, e, ne⟩ := hv v (List.mem_cons_self ..)
    obtain ⟨a, o, xs, n, rfl, ho, hc, hd, hi⟩ := G.tupKeyC_some e
    cases q : xs.toList with
    | nil =>
      rw [q] at hi
      cases hi
      exact absurd rfl ne
    | cons f r =>
      rw [q] at hi
      have hf : xs[0]? = some f := by rw [← Array.getElem?_toList, q]; rfl
      refine ⟨f :: fs, .cons ⟨a, o, xs, n, rfl, ho, hc, hd, hf, fun _ => ?_, fun z => by cases z⟩ h1⟩
      cases f with
      | int k t => exact ⟨k, t, rfl⟩
      | _ => cases hi
theorem call_sortT {l : Addr} {vs : List Value} {Q : Value → Shared → Prop} (hl : s.heap.IsList l vs.toArray) (hz : vs.length ≤ sizeLine) (hk : ∀ v ∈ vs, ∃ l, G.tupKeyC s.heap sh0 v = some l) (hne : 2 ≤ vs.length → ∀ v ∈ vs, keyH s.heap v ≠ [])
    (h : ∀ out : List Value, out.Pairwise (fun x y => ltH s.heap y x = false) → out.Perm vs → Q (.ref (s.heap.objs.size + 1)) { s with heap := sortedAll s.heap vs out.toArray }) :
    wpAny (model prog w) A (call (.builtin "sorted") [.ref l]) Q E s := by
  refine SrtO.sorted_ord (ltH_swo s.heap) hl hz (fun h2 h₁ a ha kk => ?_) fun out hs hb => h out hs hb.perm
  intro h' keep
  have k1 : G.KeepsTups s.heap h' := fun b o e c => keep b o (kk b o e).1 (kk b o e).2
  obtain ⟨fs, hf⟩ := tups_first (h := s.heap) (vs := vs) fun v hv => by
    obtain ⟨l, e⟩ := hk v hv
    refine ⟨l, e, fun z => hne h2 v hv ?_⟩
    unfold keyH
    rw [e, z]
    rfl
  have hf' := G.TupsOf.keep k1 hf
  refine ⟨tuples' true, fun Q E hq => tup_kind (s := { s with heap := h' }) (by rw [G.TupsOf.length hf]; omega) hf' hq, tup_cmp (s := { s with heap := h' }) k1 hk⟩
end

/-! ### values as data, in another order -/
inductive FR {α β : Type} (R : α → β → Prop) : List α → List β → Prop
  | nil : FR R [] []
  | cons {a : α} {b : β} {as : List α} {bs : List β} : R a b → FR R as bs → FR R (a :: as) (b :: bs)
theorem FR.perm {α β : Type} {R : α → β → Prop} {bs cs : List β} (p : bs.Perm cs) : ∀ {as : List α}, FR R as bs → ∃ as', FR R as' cs ∧ as'.Perm as := by
  induction p with
  | nil => intro as h; exact ⟨as, h, List.Perm.refl _⟩
  | cons x _ ih =>
    intro as h
    cases h with
    | cons r t =>
      obtain ⟨as', h1, h2⟩ := ih t
      exact ⟨_, .cons r h1, h2.cons _⟩
  | swap x y l =>
    intro as h
    cases h with
    | cons r t =>
      cases t with
      | cons r2 t => exact ⟨_, .cons r2 (.cons r t), List.Perm.swap _ _ _⟩
  | trans _ _ ih1 ih2 =>
    intro as h
    obtain ⟨a1, h1, h2⟩ := ih1 h
    obtain ⟨a2, h3, h4⟩ := ih2 h1
    exact ⟨a2, h3, h4.trans h2⟩
theorem FR.mem {α β : Type} {R : α → β → Prop} {a : α} : ∀ {as : List α} {bs : List β}, FR R as bs → a ∈ as → ∃ b ∈ bs, R a b
  | _, _, .nil, h => by cases h
  | _, _, .cons r t, h => by
    rcases List.mem_cons.mp h with z | z
    · subst z; exact ⟨_, List.mem_cons_self .., r⟩
    · obtain ⟨b, h1, h2⟩ := t.mem z
      exact ⟨b, List.mem_cons_of_mem _ h1, h2⟩
theorem FR.mem' {α β : Type} {R : α → β → Prop} {b : β} : ∀ {as : List α} {bs : List β}, FR R as bs → b ∈ bs → ∃ a ∈ as, R a b
  | _, _, .nil, h => by cases h
  | _, _, .cons r t, h => by
    rcases List.mem_cons.mp h with z | z
    · subst z; exact ⟨_, List.mem_cons_self .., r⟩
    · obtain ⟨b, h1, h2⟩ := t.mem' z
      exact ⟨b, List.mem_cons_of_mem _ h1, h2⟩
theorem FR.pw {α β : Type} {R : α → β → Prop} {P : β → β → Prop} {P' : α → α → Prop} (hp : ∀ a a' b b', R a b → R a' b' → P b b' → P' a a') : ∀ {as : List α} {bs : List β}, FR R as bs → bs.Pairwise P → as.Pairwise P'
  | _, _, .nil, _ => .nil
  | _, _, .cons r t, h => by
    obtain ⟨h1, h2⟩ := List.pairwise_cons.mp h
    refine .cons (fun a' ha' => ?_) (FR.pw hp t h2)
    obtain ⟨b', hb', r'⟩ := t.mem ha'
    exact hp _ _ _ _ r r' (h1 b' hb')
def RelD (K : PySem.W.Frag) (H : Hp) (d : D) (u : Value) : Prop := ∃ v, VR K H d v ∧ RelV v u
theorem fr_of {K : PySem.W.Frag} {H : Hp} : ∀ {ds : List D} {vs : List V} {us : List Value}, VRs K H ds vs → Vals vs us → FR (RelD K H) ds us
  | _, _, _, .nil, .nil => .nil
  | _, _, _, .cons r t, .cons q u => .cons ⟨_, r, q⟩ (fr_of t u)
theorem fr_to {K : PySem.W.Frag} {H : Hp} : ∀ {ds : List D} {us : List Value}, FR (RelD K H) ds us → ∃ vs, VRs K H ds vs ∧ Vals vs us
  | _, _, .nil => ⟨[], .nil, .nil⟩
  | _, _, .cons ⟨v, r, q⟩ t => by
    obtain ⟨vs, h1, h2⟩ := fr_to t
    exact ⟨v :: vs, .cons r h1, .cons q h2⟩
theorem tupItems_ints : ∀ {ns : List Int} {us : List Value} {i : Nat}, Vals (ns.map V.int) us → tupItems sh0 i us = some (ns.map Sum.inl)
  | [], _, _, h => by cases h; rfl
  | n :: ns, us, i, h => by
    cases h with
    | cons q t =>
      obtain ⟨tk, rfl⟩ := (show ∃ t, _ = Value.int n t from q)
      show (if sh0 i = true then none else (tupItems sh0 (i + 1) _).map (Sum.inl n :: ·)) = _
      rw [if_neg (by simp [sh0]), tupItems_ints t]
      rfl
theorem lex_ints : ∀ (a b : List Int), lexLt itemOrd (a.map Sum.inl) (b.map Sum.inl) = lexI a b
  | [], [] => rfl
  | [], _ :: _ => rfl
  | _ :: _, [] => rfl
  | x :: r, y :: t => by
    show (decide (x < y) || (!decide (y < x) && lexLt itemOrd (r.map Sum.inl) (t.map Sum.inl))) = _
    rw [lex_ints r t]
    rfl
theorem key_of {X : Cx} {pins : List (Addr × Obj)} {σ : St} {H : Hp} {s : Shared} (I : Inv X pins σ H s) {d : D} {u : Value} (r : RelD X.K H d u) (h : isIntTup d = true) : G.tupKeyC s.heap sh0 u = some ((keyD d).map Sum.inl) := by
  obtain ⟨v, r, q⟩ := r
  rw [intTup_eq h] at r
  obtain ⟨a, vs, rfl, ha, ra⟩ := r.inv_tup
  have e : vs = (keyD d).map V.int := by
    have : ∀ (ns : List Int) (vs : List V), VRs X.K H (ns.map D.int) vs → vs = ns.map V.int := by
      intro ns
      induction ns with
      | nil => intro vs h; cases h; rfl
      | cons n ns ih =>
        intro vs h
        cases h with
        | cons r t =>
          cases r
          rw [ih _ t]
          rfl
    exact this _ _ ra
  subst e
  cases (show u = Value.ref a from q)
  obtain ⟨its, rv, ⟨⟨cls, dd, data, sl⟩, ho, hc, n, hd⟩, hs⟩ := I.tuple ha
  simp only at hc hd
  subst hc hd
  unfold G.tupKeyC
  have e1 : G.isTupObj s.heap (.ref a) = true := by simp [G.isTupObj, ho]
  rw [if_pos e1]
  simp only [tupKey, ho]
  exact tupItems_ints rv
/-- sorted(e), a new list -/
def rSortM (X : Cx) : List V → Hp → VK → Prop := fun xs H Q => ∃ ds ys, VRs X.K H ds xs ∧ bSorted ds = some (.lst ys) ∧ ∀ p ws, H p = none → VRs X.K H ys ws → Q (.ref p) (upd H p (.lst ws))
theorem cm_sorted {X : Cx} : CallR X (.builtin "sorted") (rSortM X) := by
  intro pins s σ H xs us Q I rs ⟨ds0, z, r, hz, kd⟩
  unfold bSorted at hz
  split at hz
  · rename_i ds
    obtain ⟨hs, hz⟩ := if_some hz
    cases hz
    cases r with
    | cons r1 r2 =>
      cases r2
      obtain ⟨a, vs, rfl, ha, ra⟩ := r1.inv_lst
      obtain ⟨its, rv, hl, hzl⟩ := I.list ha.seq
      rw [Vals.ref1 rs]
      have fr := fr_of ra rv
      obtain ⟨h1, h2⟩ := Bool.and_eq_true_iff.mp hs
      have hall := List.all_eq_true.mp h1
      refine call_sortT hl.isList (by rw [← rv.length]; exact hzl) (fun v hv => ?_) (fun h2l v hv => ?_) fun out hp hperm => ?_
      · obtain ⟨d, hd, rd⟩ := fr.mem' hv
        exact ⟨_, key_of I rd (hall d hd)⟩
      · obtain ⟨d, hd, rd⟩ := fr.mem' hv
        unfold keyH
        rw [key_of I rd (hall d hd)]
        rcases Bool.or_eq_true_iff.mp h2 with h2 | h2
        · have := of_decide_eq_true h2
          rw [ra.length, rv.length] at this
          omega
        · have := List.all_eq_true.mp h2 d hd
          intro z
          simp at z
          rw [z] at this
          simp at this
      · obtain ⟨ds', f1, f2⟩ := fr.perm hperm.symm
        have hs' : ds' = sortT ds := by
          refine sort_uniq (le := fun a b => leD a b = true) (f2.trans (sortT_perm ds).symm) ?_ (sortT_pw ds) ?_
          · have : ∀ d ∈ ds', isIntTup d = true := fun d hd => hall d (f2.mem_iff.mp hd)
            have key : ∀ (es : List D) (us : List Value), FR (RelD X.K H) es us → (∀ d ∈ es, isIntTup d = true) → us.Pairwise (fun x y => ltH s.heap y x = false) → es.Pairwise fun a b => leD a b = true := by
              intro es us f ha hp
              have f' : FR (fun d u => RelD X.K H d u ∧ isIntTup d = true) es us := by
                induction f with
                | nil => exact .nil
                | cons r t ih => exact .cons ⟨r, ha _ (List.mem_cons_self ..)⟩ (ih (fun d hd => ha d (List.mem_cons_of_mem _ hd)) (List.pairwise_cons.mp hp).2)
              refine FR.pw (fun a a' b b' r r' p => ?_) f' hp
              unfold ltH keyH at p
              rw [key_of I r.1 r.2, key_of I r'.1 r'.2] at p
              have p2 : lexI (keyD a') (keyD a) = false := (lex_ints _ _).symm.trans p
              unfold leD
              rw [p2]
              rfl
            exact key _ _ f1 this hp
          · intro a ha b hb h1 h2
            have ia := hall a (f2.mem_iff.mp ha)
            have ib := hall b (f2.mem_iff.mp hb)
            unfold leD at h1 h2
            rw [Bool.not_eq_true'] at h1 h2
            rw [intTup_eq ia, intTup_eq ib, lexI_total h2 h1]
        obtain ⟨ws, g1, g2⟩ := fr_to f1
        obtain ⟨ep, he'⟩ := PyProof.Rows.sortedAll_at s.heap its out.toArray
        have hlen : ws.length ≤ sizeLine := by
          rw [g2.length, hperm.length_eq, ← rv.length]
          exact hzl
        have kd' := kd (s.heap.objs.size + 1) ws (I.hok.fresh (Nat.le_succ _)) (by rw [← hs']; exact g1)
        refine ⟨.ref _, upd H (s.heap.objs.size + 1) (.lst ws), I.laid (t' := s.toks) (fun _ _ => PyProof.Rows.sortedAll_old) (Nat.le_succ _) ⟨hlen, out, ep, g2, ?_⟩, rfl, kd'⟩
        simpa using he'
  · cases hz
theorem cd_sorted {X : Cx} : CallD X (.builtin "sorted") bSorted := by
  refine CallR.imp (CallR.frz cm_sorted) fun xs H Q ⟨ds, z, r, hz, kd⟩ => ?_
  have hl : ∃ ys, z = .lst ys := by
    unfold bSorted at hz
    split at hz
    · obtain ⟨_, hz⟩ := if_some hz
      exact ⟨_, hz.symm⟩
    · cases hz
  obtain ⟨ys, rfl⟩ := hl
  exact ⟨ds, ys, r, hz, fun p ws hp rw => KD.list kd rw hp⟩
end
end DL
/-! DLR: xs[::-1], is of bools. -/
namespace DL
noncomputable section
open PySem PySem.Spec PyProof.Rows L2 HT
def opRev : D → Option D
  | .tup xs => some (.tup xs.reverse)
  | .lst xs => some (.lst xs.reverse)
  | _ => none
def opIs : D → D → Option D
  | .bl a, .bl b => some (.bl (a == b))
  | _, _ => none
def opIsnt : D → D → Option D
  | .bl a, .bl b => some (.bl (!(a == b)))
  | _, _ => none
theorem dec_beq (a b : Bool) : decide (a = b) = (a == b) := by cases a <;> cases b <;> rfl
theorem opd_is {X : Cx} : OpD X (compareOp .Is) opIs := by
  refine OpR.imp op_isBl fun x y H Q ⟨d, e, z, r1, r2, hz, kd⟩ => ?_
  cases d with
  | bl i =>
    cases e with
    | bl j =>
      cases hz
      cases r1
      cases r2
      exact ⟨i, j, rfl, rfl, by rw [dec_beq]; exact kd.same (.bl _)⟩
    | _ => cases hz
  | _ => cases hz
theorem opd_isnt {X : Cx} : OpD X (compareOp .IsNot) opIsnt := by
  refine OpR.imp op_notBl fun x y H Q ⟨d, e, z, r1, r2, hz, kd⟩ => ?_
  cases d with
  | bl i =>
    cases e with
    | bl j =>
      cases hz
      cases r1
      cases r2
      exact ⟨i, j, rfl, rfl, by rw [dec_beq]; exact kd.same (.bl _)⟩
    | _ => cases hz
  | _ => cases hz
/-! ### xs[::-1] -/
theorem adj_rev (n : Nat) : Builtin.Slice.sliceAdjust none none (-1) (n : Int) = ((n : Int) - 1, -1) := by
  unfold Builtin.Slice.sliceAdjust
  simp
theorem places_rev (n : Nat) : Builtin.Slice.slicePlaces ((n : Int) - 1) (-1) (-1) = n := by
  unfold Builtin.Slice.slicePlaces
  simp
  omega
theorem pick_rev (xs : Array Value) : ((List.range xs.size).filterMap fun (k : Nat) => xs[(((xs.size : Nat) : Int) - 1 + (k : Int) * (-1)).toNat]?).toArray = xs.toList.reverse.toArray := by
  congr 1
  have e : (fun (k : Nat) => xs[(((xs.size : Nat) : Int) - 1 + (k : Int) * (-1)).toNat]?) = (fun i => xs[i]?) ∘ fun k => xs.size - 1 - k := by
    funext k
    have : (((xs.size : Nat) : Int) - 1 + (k : Int) * (-1)).toNat = xs.size - 1 - k := by omega
    rw [this]
    rfl
  rw [e, ← List.filterMap_map, PySem.W.krv_range, List.filterMap_reverse, PySem.W.krv_all]
section
variable {prog : Program} {w : World} {A : Around} {E : Value → Shared → Prop} {s : Shared}
theorem applied_rev {sl : Addr} {vs : Value} {n : Nat} {Q : Int × Int × Nat → Shared → Prop} (hs : s.heap.IsSliceOf sl .none .none vs) (ps : IsPart vs (some (-1)))
    (h : Q ((n : Int) - 1, -1, n) s) : wpAny (model prog w) A (Builtin.Slice.sliceApplied (.ref sl) (pure (n : Int))) Q E s := by
  obtain ⟨os, hos, hcs, hds⟩ := id hs
  unfold Builtin.Slice.sliceApplied Builtin.Slice.sliceFields
  refine wpAny_bind (wpAny_bind (wpAny_field hos hds (x := .none) rfl (wpAny_bind (wpAny_field hos hds (x := .none) rfl (wpAny_bind (wpAny_field hos hds (x := vs) rfl (wpAny_pure ?_)))))))
  refine wpAny_bind (slicePart_ ps ?_)
  show wpAny _ _ (if ((-1 : Int) == 0) = true then _ else _) _ _ s
  rw [if_neg (by decide)]
  refine wpAny_bind (slicePart_none (wpAny_bind (slicePart_none (wpAny_bind (wpAny_pure ?_)))))
  show wpAny _ _ (match Builtin.Slice.sliceAdjust none none (-1) (n : Int) with | (lo, hi) => pure (lo, (-1 : Int), Builtin.Slice.slicePlaces lo hi (-1))) _ _ s
  rw [adj_rev n]
  show wpAny _ _ (pure ((n : Int) - 1, (-1 : Int), Builtin.Slice.slicePlaces ((n : Int) - 1) (-1) (-1))) _ _ s
  rw [places_rev]
  exact wpAny_pure h
theorem getItem_tuple_rev {t sl : Addr} {items : Array Value} {vs : Value} {Q : Value → Shared → Prop} (ht : IsTup s.heap t items) (hs : s.heap.IsSliceOf sl .none .none vs) (ps : IsPart vs (some (-1)))
    (h : Q (.ref s.heap.objs.size) { s with heap := s.heap.push { cls := .type "tuple", data := .seq items.toList.reverse.toArray } }) (hsz : items.size ≤ sizeLine) : wpAny (model prog w) A (getItem (.ref t) (.ref sl)) Q E s := by
  have htake : sizeOk (.seq items.toList.reverse.toArray) := by
    show items.toList.reverse.toArray.size ≤ sizeLine
    rw [List.size_toArray, List.length_reverse, Array.length_toList]
    exact hsz
  obtain ⟨os, hos, hcs, hds⟩ := id hs
  have hTs : s.TypeIs (.ref sl) "slice" := ⟨os, hos, hcs⟩
  unfold getItem
  try with_reducible refine wpAny_holding ?_
  first | refine wpAny_bind (wpAny_pure ?_) | skip
  refine wpAny_bind (wpAny_sequenceKey ht.typeIs (by decide) ?_)
  refine wpAny_bind (wpAny_callSpecial?_slot (name := Str.ofString "__getitem__") ht.typeIs PyProof.Rows.slot_tuple_getitem
    (wpAny_call_entry PyProof.Rows.slot_tuple_getitem ht.typeIs PyProof.Rows.entry_tuple_getitem ?_ (PyProof.Rows.args_tuple_getitem _ _)))
  show wpAny _ _ (Builtin.Tuple.tupleItemsOf (.ref t) >>= _) _ _ s
  refine wpAny_bind (tupleItemsOf_ ht ?_)
  refine wpAny_bind (wpAny_typeOf hTs ?_)
  rw [if_pos (by decide)]
  refine wpAny_bind (applied_rev hs ps ?_)
  show wpAny _ _ (if (((items.size : Nat) : Int) - 1 == 0 && (-1 : Int) == 1 && items.size == items.size) = true then _ else _) _ _ s
  have hno : ¬ ((((items.size : Nat) : Int) - 1 == 0 && (-1 : Int) == 1 && items.size == items.size) = true) := by
    rw [show ((-1 : Int) == 1) = false from rfl, Bool.and_false, Bool.false_and]
    exact Bool.false_ne_true
  rw [if_neg hno, pick_rev]
  first
    | exact wpAny_bind (m := Builtin.Tuple.tupleExact _) (wpAny_newObj_type (wpAny_pure ⟨_, rfl, wpAny_pure h⟩) htake)
    | exact wpAny_bind (m := Builtin.Tuple.tupleExact _) (wpAny_newObj_type (wpAny_bind (wpAny_pure (wpAny_pure ⟨_, rfl, wpAny_pure h⟩))) htake)
end
section
variable {X : Cx}
def tRevT (K : PySem.W.Frag) (te : TE) : TE := fun σ H Q => te σ H fun x H1 => ∃ a xs, x = .ref a ∧ SqT K H1 a xs ∧ ∀ p, H1 p = none → Q (.ref p) (upd H1 p (.tup xs.reverse))
theorem pe_revT {e : Expr} {te : TE} {k : Nat} {p1 p2 p3 pos : Pos} (he : PE X e te) : PE X (.Subscript e (.Slice none none (some (.UnaryOp .USub (.Constant (.int 1) k p1) p2)) p3) pos) (tRevT X.K te) := by
  refine ⟨fun pins s σ H Q I h => ?_⟩
  refine Subscript_ (thn (he.run pins s σ H _ I h) fun v s1 ⟨x, H1, I1, r1, q1⟩ => ?_)
  obtain ⟨a, xs, ex, hx, q⟩ := q1
  subst ex
  cases r1
  have hst : PO X (some (.UnaryOp .USub (.Constant (.int 1) k p1) p2)) (tPart (tUn (rU fun i => .int (-i)) (tC (.int 1)))) := po_some (pe_un un_neg pe_int)
  refine wpAny_Slice (thn (po_none.run pins s1 σ H1 (fun o H2 => o = none ∧ H2 = H1) I1 ⟨rfl, rfl⟩) fun vl s2 ⟨l, H2, I2, pl, el, e2⟩ => ?_)
  subst el e2
  refine thn (po_none.run pins s2 σ H2 (fun o H3 => o = none ∧ H3 = H2) I2 ⟨rfl, rfl⟩) fun vu s3 ⟨u, H3, I3, pu, eu, e3⟩ => ?_
  subst eu e3
  refine thn (hst.run pins s3 σ H3 (fun o H4 => o = some (-1) ∧ H4 = H3) I3 ⟨1, rfl, -1, rfl, rfl, rfl⟩) fun vs s4 ⟨o, H4, I4, ps, eo, e4⟩ => ?_
  subst eo e4
  cases pl
  cases pu
  have I5 : Inv X pins σ H4 { s4 with heap := s4.heap.push { cls := .type "slice", data := .fields #[.none, .none, vs] } } := I4.kept (t' := s4.toks) fun b ob q => Heap.get?_push_of_some _ q
  obtain ⟨its, r, ht, hz⟩ := I5.tuple hx
  have hlen := r.length
  show wpAny (model X.prog X.w) X.A (subscriptTail e (.Slice none none (some (.UnaryOp .USub (.Constant (.int 1) k p1) p2)) p3) (.ref a) (.ref s4.heap.objs.size)) (EP X pins σ Q) X.xe { s4 with heap := s4.heap.push { cls := .type "slice", data := .fields #[.none, .none, vs] } }
  refine tail_any (ops := [.ref a, .ref s4.heap.objs.size]) ht.typeIs (PyProof.Rows.slot_tuple_getitem.lookup) ?_ (by with_unfolding_all rfl)
  refine getItem_tuple_rev ht (Heap.IsSliceOf.new _ .none .none vs) ps ?_ (by rw [List.size_toArray]; omega)
  refine ⟨.ref _, _, I5.laid (t' := s4.toks) (o := .tup xs.reverse) (fun b ob q => Heap.get?_push_of_some _ q) (Nat.le_refl _) ?_, rfl, q _ (I5.hok.fresh (Nat.le_refl _))⟩
  exact ⟨by rw [List.length_reverse]; exact hz, _, r.reverse, IsTup.new _ _⟩
theorem vrs_rev {K : PySem.W.Frag} {H : Hp} : ∀ {ds : List D} {vs : List V}, VRs K H ds vs → VRs K H ds.reverse vs.reverse
  | _, _, .nil => .nil
  | _, _, .cons r t => by rw [List.reverse_cons, List.reverse_cons]; exact (vrs_rev t).append (.cons r .nil)
theorem de_rev {pl : List Nat} {W : WX} {a : Expr} {fa : RE} {k : Nat} {p1 p2 p3 pos : Pos} (ha : DE X pl W a fa) : DE X pl W (.Subscript a (.Slice none none (some (.UnaryOp .USub (.Constant (.int 1) k p1) p2)) p3) pos) (e1 opRev fa) := by
  have key : PE X (.Subscript a (.Slice none none (some (.UnaryOp .USub (.Constant (.int 1) k p1) p2)) p3) pos) (fun σ H Q => tRevL X.K (tD X.K pl W fa) σ H (FrzQ Q) ∨ tRevT X.K (tD X.K pl W fa) σ H Q) :=
    ⟨fun pins s σ H Q I hw => hw.elim ((pe_frz (pe_revL ha.h)).run pins s σ H Q I) ((pe_revT ha.h).run pins s σ H Q I)⟩
  refine ⟨pe_imp key fun σ H Q ⟨ρ, hE, hP⟩ => ?_⟩
  unfold e1 at hP
  cases q : fa ρ with
  | bad => rw [q] at hP; exact hP.elim
  | exc z ρ1 =>
    rw [q] at hP
    refine .inl ⟨ρ, hE, ?_⟩
    rw [q]
    exact hP
  | ok d ρ1 =>
    rw [q] at hP
    cases d with
    | lst ds =>
      refine .inl ⟨ρ, hE, ?_⟩
      rw [q]
      intro v H1 e1 s1 r1
      obtain ⟨l, vs, rfl, hl, rl⟩ := r1.inv_lst
      have hP1 := PostG.trans s1 hP
      exact ⟨l, vs, rfl, hl.seq, fun p hp => KD.list (fun v H' g rr => hP1 v H' (e1.heap g.keep) (Step.heap g.keep) rr) (vrs_rev rl) hp⟩
    | tup ds =>
      refine .inr ⟨ρ, hE, ?_⟩
      rw [q]
      intro v H1 e1 s1 r1
      obtain ⟨l, vs, rfl, hl, rl⟩ := r1.inv_tup
      have hP1 := PostG.trans s1 hP
      exact ⟨l, vs, rfl, hl, fun p hp => KD.tuple (fun v H' g rr => hP1 v H' (e1.heap g.keep) (Step.heap g.keep) rr) (vrs_rev rl) hp⟩
    | _ => exact hP.elim
end
end
end DL
/-! DLH: more rules: chains, a name = [..] by its block, isinstance, own lists asked, the built-ins' table. -/
namespace DL
noncomputable section
open PySem PySem.Spec PyProof.Rows L2

/-! ### side conditions by form -/
def plainB : Expr → Bool
  | .Starred _ _ => false
  | _ => true
theorem star_ok {e : Expr} (h : plainB e = true) (es : List Expr) (env : PySem.Env) : starEach (e :: es) env = (false, eval e env) :: starEach es env := by
  cases e <;> first | rfl | cases h
theorem starAny_ok : ∀ {es : List Expr} {pos : Pos} {env : PySem.Env}, es.all plainB = true → (backTo pos (starEach es env)).any (·.1) = false
  | [], _, _, _ => rfl
  | e :: es, pos, env, h => by
    obtain ⟨h1, h2⟩ := Bool.and_eq_true_iff.mp (show (plainB e && es.all plainB) = true from h)
    rw [star_ok h1]
    unfold backTo at *
    rw [List.map_cons, List.any_cons]
    have := starAny_ok (es := es) (pos := pos) (env := env) h2
    unfold backTo at this
    rw [this]
    rfl
def noCompB : Expr → Bool
  | .ListComp .. => false
  | .SetComp .. => false
  | .DictComp .. => false
  | _ => true
theorem sw_ok {e : Expr} (h : noCompB e = true) (t : Option Expr) (l : Nat) (env : PySem.Env) : swapsWith e t l env = pure false := by
  cases e <;> first | rfl | cases h
def noSetB : Expr → Bool
  | .Set .. => false
  | _ => true
theorem fold_ok {e : Expr} (h : noSetB e = true) (env : PySem.Env) (x : Value) : foldedSetIterable e env x = pure x := by
  cases e <;> first | rfl | cases h
def noSliceB : Expr → Bool
  | .Slice .. => false
  | _ => true
theorem ix_ok {e : Expr} (h : noSliceB e = true) : PlainIx e := fun o i => by
  cases e <;> first | rfl | cases h
theorem mark_ok {e : Expr} (h : noSetB e = true) (op : CmpOp) : behindInMarks op e = false := by
  cases e <;> first | rfl | cases h
theorem base_ok (x : Str) (p : Pos) (nm : Str) (env : PySem.Env) (m : Sem Value) : attributeBase (.Name x p) nm env m = m := rfl
def valB : Expr → Bool
  | .UnaryOp .Not _ _ => false
  | .BoolOp .. => false
  | .IfExp .. => false
  | .Compare .. => false
  | _ => true
theorem test_ok {e : Expr} (h : valB e = true) (env : PySem.Env) (whole : Sem Value) : isTrue e env whole = (do let v ← whole; standAt e.pos; holding [v] (truthy v)) := by
  cases e with
  | UnaryOp op x p => cases op <;> first | rfl | cases h
  | _ => first | rfl | cases h

/-! ### a name = [..] by its block -/
def FrzN (nx : St → Hp → Prop) (σ : St) (H : Hp) : Prop := nx σ H ∨ ∃ a xs, H a = some (.lst xs) ∧ ∀ o, nx σ (upd H a (.frz o (.lst xs)))
theorem ps_frzN {X : Cx} {st : Stmt} {t : TS} (h : PS X st t) : PS X st (fun D σ H => t { D with nx := FrzN D.nx } σ H) := by
  refine ⟨fun pins s σ H D I hw => thn (h.run pins s σ H _ I hw) fun f s1 q => ?_⟩
  cases f with
  | next =>
    obtain ⟨σ', H', I', q⟩ := q
    rcases q with q | ⟨a, xs, ha, q⟩
    · exact ⟨σ', H', I', q⟩
    · obtain ⟨o, J⟩ := Inv_freeze I' ha
      exact ⟨σ', _, J, q o⟩
  | brk => exact q
  | cont => exact q
  | ret u => exact q
section
variable {X : Cx} {pl : List Nat} {W : WX} {a b c e elt tg iter : Expr} {ifs : List Expr} {scope : Scope} {own : List (Str × Nat)} {it : RM} {t : Tg} {tt : RT} {te fa fb fc : RE} {pos spos py : Pos} {y : Str} {i : Nat}
theorem ds_setLcO (hc : X.calm = true) (hN : X.N.Nodup) (hy : X.N[i]? = some y) (hyl : X.env.scope.names.lookup y = some .local) (hpi : i ∉ pl)
    (hsw : swapsWith (.ListComp elt [⟨tg, iter, ifs, 0⟩] scope pos) (some (.Name y py)) spos.line X.env = pure true) (hi : DI X pl W tg iter it) (ok : BlkOk X.N X.env.scope scope own) (ho : ∀ i ∈ tgI t, i ∈ own.map (·.2))
    (hg : ∀ (s : Shared) (H : Hp) (C : Addr) (cl : List (Str × Addr)) (fp : List Addr), DG (X.blk s H scope (compEnvC scope cl C X.env) fp) tg t)
    (ht : ∀ (s : Shared) (H : Hp) (C : Addr) (cl : List (Str × Addr)) (fp : List Addr), DTs (X.blk s H scope (compEnvC scope cl C X.env) fp) [] W0 ifs tt)
    (he : ∀ (s : Shared) (H : Hp) (C : Addr) (cl : List (Str × Addr)) (fp : List Addr), DE (X.blk s H scope (compEnvC scope cl C X.env) fp) [] W0 elt te)
    (hs : ∀ x, foldedSetIterable iter X.env x = pure x) : DS X pl W (.Assign [.Name y py] (.ListComp elt [⟨tg, iter, ifs, 0⟩] scope pos) spos) (sSetO i (mLc it (own.map (·.2)) t tt te)) :=
  ⟨ps_imp (ps_setLc hc hN hy hyl hsw hi.h ok (fun s H C cl fp => (hg s H C cl fp).h) (fun s H C cl fp => (ht s H C cl fp).h) (fun s H C cl fp => (he s H C cl fp).h) hs) (asg_reads hpi fun _ _ _ h => lc_reads ho h)⟩
theorem setM_reads {te : TE} {m : RM} (hi : i ∉ pl) (h : ∀ σ H Q, mOf X.K pl W m σ H Q → te σ H Q) : ∀ D σ H, sOf X.K pl W (sSet i (eM m)) D σ H → tAsg te (gName i) { D with nx := FrzN D.nx } σ H := by
  rintro D σ H ⟨ρ, hE, hP⟩
  unfold sSet eM at hP
  rw [Res.bind_assoc] at hP
  refine h σ H _ (bindSM hE hP fun xs ρ1 a vs H1 e1 s1 h1 h2 h3 h4 hP1 => ?_)
  refine .inr ⟨a, vs, h1, fun o => ?_⟩
  obtain ⟨g1, g2⟩ := e1.frzNew (o := o) h1 h3
  have r : VR X.K (upd H1 a (.frz o (.lst vs))) (.lst xs) (.ref a) := .lst ⟨o, upd_same⟩ (h2.ext g2)
  exact hP1 _ _ (g1.setV r) ((s1.frzNew h4).trans (Step.setV g1 hi))
theorem ds_setLcV (hc : X.calm = true) (hN : X.N.Nodup) (hy : X.N[i]? = some y) (hyl : X.env.scope.names.lookup y = some .local) (hpi : i ∉ pl)
    (hsw : swapsWith (.ListComp elt [⟨tg, iter, ifs, 0⟩] scope pos) (some (.Name y py)) spos.line X.env = pure true) (hi : DI X pl W tg iter it) (ok : BlkOk X.N X.env.scope scope own) (ho : ∀ i ∈ tgI t, i ∈ own.map (·.2))
    (hg : ∀ (s : Shared) (H : Hp) (C : Addr) (cl : List (Str × Addr)) (fp : List Addr), DG (X.blk s H scope (compEnvC scope cl C X.env) fp) tg t)
    (ht : ∀ (s : Shared) (H : Hp) (C : Addr) (cl : List (Str × Addr)) (fp : List Addr), DTs (X.blk s H scope (compEnvC scope cl C X.env) fp) [] W0 ifs tt)
    (he : ∀ (s : Shared) (H : Hp) (C : Addr) (cl : List (Str × Addr)) (fp : List Addr), DE (X.blk s H scope (compEnvC scope cl C X.env) fp) [] W0 elt te)
    (hs : ∀ x, foldedSetIterable iter X.env x = pure x) : DS X pl W (.Assign [.Name y py] (.ListComp elt [⟨tg, iter, ifs, 0⟩] scope pos) spos) (sSet i (eM (mLc it (own.map (·.2)) t tt te))) :=
  ⟨ps_imp (ps_frzN (ps_setLc hc hN hy hyl hsw hi.h ok (fun s H C cl fp => (hg s H C cl fp).h) (fun s H C cl fp => (ht s H C cl fp).h) (fun s H C cl fp => (he s H C cl fp).h) hs)) (setM_reads hpi fun _ _ _ h => lc_reads ho h)⟩

/-! ### chains -/
theorem chain_reads {op op' : D → D → Option D} : ∀ σ H Q, tD X.K pl W (eChain op op' fa fb fc) σ H Q →
    tChain (fun x y H Q => ∃ d e z, VR X.K H d x ∧ VR X.K H e y ∧ op d e = some z ∧ KD X.K H z Q) (fun x y H Q => ∃ d e z, VR X.K H d x ∧ VR X.K H e y ∧ op' d e = some z ∧ KD X.K H z Q) (tD X.K pl W fa) (tD X.K pl W fb) (tD X.K pl W fc) σ H Q := by
  rintro σ H Q ⟨ρ, hE, hP⟩
  refine bindG hE hP fun x ρ1 vx H1 E1 X1 r1 hP1 => ?_
  refine bindG E1 hP1 fun y ρ2 vy H2 E2 X2 r2 hP2 => ?_
  cases hz : op x y with
  | none => simp only [hz, give, Res.bind_bad] at hP2; exact hP2.elim
  | some z =>
    simp only [hz, give, Res.bind_ok] at hP2
    refine ⟨x, y, z, r1.ext X2, r2, hz, fun v H3 g rz => ?_⟩
    have E3 := E2.heap g.keep
    have hP3 := PostG.trans (Step.heap (pl := pl) (ρ := ρ2) (σ := σ) g.keep) hP2
    cases z with
    | bl k =>
      refine ⟨k, rz.inv_bl, ?_⟩
      cases k with
      | false => exact iteF (hP3 _ H3 E3 .refl (.bl false))
      | true =>
        refine iteT (bindG E3 hP3 fun w ρ4 vw H4 E4 X4 r4 hP4 => ?_)
        obtain ⟨q, hq, kd⟩ := kd_of E4 hP4
        exact ⟨y, w, q, (r2.ext g.ext).ext X4, r4, hq, kd⟩
    | _ => exact hP3.elim
theorem de_chain {o o' : CmpOp} {op op' : D → D → Option D} (ho : OpD X (compareOp o) op) (ho' : OpD X (compareOp o') op') (ha : DE X pl W a fa) (hb : DE X pl W b fb) (hc : DE X pl W c fc) (hm : lastMarks [o, o'] [b, c] = false) :
    DE X pl W (.Compare a [o, o'] [b, c] pos) (eChain op op' fa fb fc) := ⟨pe_imp (pe_chain ho ho' ha.h hb.h hc.h hm) chain_reads⟩
theorem dt_chain {o o' : CmpOp} {op op' : D → D → Option D} (ho : OpD X (compareOp o) op) (ho' : OpD X (compareOp o') op') (ha : DE X pl W a fa) (hb : DE X pl W b fb) (hc : DE X pl W c fc) (hm : lastMarks [o, o'] [b, c] = false) :
    DT X pl W (.Compare a [o, o'] [b, c] pos) (tE (eChain op op' fa fb fc)) := by
  refine ⟨pt_imp (pt_chain ho ho' ha.h hb.h hc.h hm) fun σ H Q h => ?_⟩
  have h2 := test_reads (X := X) (pl := pl) (W := W) (fa := eChain op op' fa fb fc) σ H Q h
  obtain ⟨ρ, hE, hP⟩ := h2
  exact chain_reads σ H _ ⟨ρ, hE, hP⟩

/-! ### isinstance -/
def isiB (n : String) : D → Option Bool
  | .non => L2.kitB "NoneType" n
  | .bl _ => L2.kitB "bool" n
  | .int _ => L2.kitB "int" n
  | .str _ => L2.kitB "str" n
  | .tup _ => L2.kitB "tuple" n
  | .lst _ => L2.kitB "list" n
  | .scr _ => L2.kitB "list" n
  | .obj _ _ _ => none
def opIsi (n : String) (d : D) : Option D := (isiB n d).map .bl
theorem tyx_of {K : PySem.W.Frag} {H : Hp} {n : String} {d : D} {v : V} {b : Bool} (r : VR K H d v) (h : isiB n d = some b) : ∃ t, TyX K H v (.type t) ∧ L2.kitB t n = some b := by
  cases r with
  | non => exact ⟨_, .base .non, h⟩
  | bl b => exact ⟨_, .base (.bl b), h⟩
  | int b => exact ⟨_, .base (.int b), h⟩
  | str b => exact ⟨_, .base (.str b), h⟩
  | tup hT _ =>
    refine ⟨"tuple", ?_, h⟩
    rcases hT with (hT | ⟨o, hT⟩) | ⟨o, its, k, h1, h2, _⟩
    · exact .base (.tup hT)
    · exact .fTuple hT
    · exact .kTuple h1 h2
  | lst hL _ =>
    obtain ⟨o, hL⟩ := hL
    exact ⟨_, .base (.frz hL), h⟩
  | scr hL =>
    refine ⟨"list", ?_, h⟩
    rcases hL with ⟨o, hL⟩ | ⟨o, its, k, h1, h2, _⟩
    · exact .base (.frz hL)
    · exact .kList h1 h2
  | obj => cases h
theorem de_isi {p p2 : Pos} {x : Str} {n : String} (hg : Gl X "isinstance") (hm : X.mg "isinstance" = none) (ha : DE X pl W a fa) (hg2 : Gl X x) (hm2 : X.mg x = none) (hv2 : bootBuiltins x = some (.type n)) (hn2 : x ≠ "__name__") (hd2 : (x == ("__debug__" : Str)) = false) (hp : plainB a = true) :
    DE X pl W (.Call (.Name "isinstance" p) [a, .Name x p2] [] pos) (e1 (opIsi n) fa) := by
  refine ⟨pe_imp (pe_callB call_isi hg hm (by decide +kernel) (pa_cons ha.h (pa_cons (pe_bltn (v := .ty n) hg2 hm2 hv2 rfl hn2 hd2) pa_nil) (star_ok hp _ _)) (by decide) (by decide) (star_ok hp _ _)) fun σ H Q ⟨ρ, hE, hP⟩ => ?_⟩
  refine bindG hE hP fun d ρ1 v H1 E1 X1 r1 hP1 => ?_
  obtain ⟨z, hz, kd⟩ := kd_of E1 hP1
  obtain ⟨b, hb, rfl⟩ := Option.map_eq_some_iff.mp hz
  obtain ⟨t, h1, h2⟩ := tyx_of r1 hb
  exact ⟨v, .ty n, .type t, .type n, b, rfl, .ty n, h1, kit_ty h2, kd.same (.bl b)⟩

/-! ### own lists asked -/
def oIn (neg : Bool) (i : Nat) (a : RE) : RE := fun ρ => (a ρ).bind fun x ρ => give ((own? (ρ.getD i .no)).bind fun ys => if D.shp x && D.shp (.lst ys) then some (.bl (if neg then !ys.any fun z => D.eq z x else ys.any fun z => D.eq z x)) else none) ρ
theorem pys_list {K : PySem.W.Frag} {H : Hp} {d : D} {x : V} {y : Addr} {ys : List D} {vs : List V} (r1 : VR K H d x) (hy : SqL K H y vs) (r2 : VRs K H ys vs) (h1 : D.shp d = true) (h2 : D.shp (.lst ys) = true) :
    ∃ p ps, Dp K H x p ∧ Dp K H (.ref y) (.list ps) ∧ SeqAt.shaped p = true ∧ PyData.canLayAll0 ps = true ∧ (ps.any fun z => PyData.eqv z p) = ys.any fun z => D.eq z d := by
  obtain ⟨p, p1, p2, p3⟩ := shp_of r1 h1
  obtain ⟨f1, f2⟩ := Bool.and_eq_true_iff.mp h2
  obtain ⟨ps, q1, q2, q3, q4⟩ := pys_of ys r2 f1
  exact ⟨p, ps, p2, .lst hy q2, p3, q3, anys_of p1 q1⟩
theorem oIn_reads {neg : Bool} {p2 : Pos} {x : Str} {tv : TE} (htv : tv = tVar i) : ∀ σ H Q, tD X.K pl W (oIn neg i fa) σ H Q → tOp (rInG X.K neg) (tD X.K pl W fa) tv σ H Q := by
  subst htv
  rintro σ H Q ⟨ρ, hE, hP⟩
  refine bindG hE hP fun d ρ1 v H1 E1 X1 r1 hP1 => ?_
  obtain ⟨z, hz, kd⟩ := kd_of E1 hP1
  obtain ⟨ys, q1, q2⟩ := Option.bind_eq_some_iff.mp hz
  obtain ⟨hl, q3⟩ := if_some q2
  subst q3
  obtain ⟨h1, h2⟩ := Bool.and_eq_true_iff.mp hl
  obtain ⟨p, vs, g1, g2, g3⟩ := E1.own i ys (own_get q1)
  obtain ⟨pd, ps, a1, a2, a3, a4, a5⟩ := pys_list r1 (SqL.of g2) g3 h1 h2
  refine ⟨.ref p, g1, pd, ps, a1, .inl a2, a3, a4, ?_⟩
  rw [a5]
  exact kd.same (.bl _)
theorem de_oIn {x : Str} {p2 : Pos} (hu : X.A.units + 65 < cLine) (ha : DE X pl W a fa) (hv : PE X (.Name x p2) (tVar i)) : DE X pl W (.Compare a [.In] [.Name x p2] pos) (oIn false i fa) :=
  ⟨pe_imp (pe_cmpR (op_inG hu) ha.h hv rfl) (oIn_reads (p2 := p2) (x := x) rfl)⟩
theorem de_oNotIn {x : Str} {p2 : Pos} (hu : X.A.units + 65 < cLine) (ha : DE X pl W a fa) (hv : PE X (.Name x p2) (tVar i)) : DE X pl W (.Compare a [.NotIn] [.Name x p2] pos) (oIn true i fa) :=
  ⟨pe_imp (pe_cmpR (op_notInG hu) ha.h hv rfl) (oIn_reads (p2 := p2) (x := x) rfl)⟩
theorem dt_oIn {x : Str} {p2 : Pos} (hu : X.A.units + 65 < cLine) (ha : DE X pl W a fa) (hv : PE X (.Name x p2) (tVar i)) : DT X pl W (.Compare a [.In] [.Name x p2] pos) (tE (oIn false i fa)) := by
  refine ⟨pt_imp (pt_cmpR (op_inG hu) ha.h hv rfl) fun σ H Q h => ?_⟩
  exact oIn_reads (p2 := p2) (x := x) rfl σ H _ (test_reads σ H Q h)
theorem dt_oNotIn {x : Str} {p2 : Pos} (hu : X.A.units + 65 < cLine) (ha : DE X pl W a fa) (hv : PE X (.Name x p2) (tVar i)) : DT X pl W (.Compare a [.NotIn] [.Name x p2] pos) (tE (oIn true i fa)) := by
  refine ⟨pt_imp (pt_cmpR (op_notInG hu) ha.h hv rfl) fun σ H Q h => ?_⟩
  exact oIn_reads (p2 := p2) (x := x) rfl σ H _ (test_reads σ H Q h)
end

/-! ### operators and built-ins by tables -/
def opOf : Operator → Option (D → D → Option D)
  | .Add => some opAdd
  | .Sub => some opSub
  | .Mult => some opMul
  | .Mod => some opMod
  | .FloorDiv => some opDiv
  | _ => none
theorem opOf_ok {X : Cx} {o : Operator} {op : D → D → Option D} (h : opOf o = some op) : OpD X (binaryOp o) op := by
  cases o <;> first
    | (cases h; exact opd_add)
    | (cases h; exact opd_sub)
    | (cases h; exact opd_mul)
    | (cases h; exact opd_mod)
    | (cases h; exact opd_div)
    | cases h
def cmpOf : CmpOp → Option (D → D → Option D)
  | .Eq => some opEq
  | .NotEq => some opNe
  | .Lt => some opLt
  | .LtE => some opLe
  | .Gt => some opGt
  | .GtE => some opGe
  | .In => some opIn
  | .NotIn => some opNotIn
  | .Is => some opIs
  | .IsNot => some opIsnt
theorem cmpOf_ok {X : Cx} {o : CmpOp} {op : D → D → Option D} (hu : X.A.units + 65 < cLine) (h : cmpOf o = some op) : OpD X (compareOp o) op := by
  cases o <;> first
    | (cases h; exact opd_eq (by omega))
    | (cases h; exact opd_ne (by omega))
    | (cases h; exact opd_lt)
    | (cases h; exact opd_le)
    | (cases h; exact opd_gt)
    | (cases h; exact opd_ge)
    | (cases h; exact opd_in hu)
    | (cases h; exact opd_notIn hu)
    | (cases h; exact opd_is)
    | (cases h; exact opd_isnt)
    | cases h
inductive Bi where
  | tuple | len | int | abs | sum | all | any | list | sorted
  deriving DecidableEq
def Bi.name : Bi → Str
  | .tuple => "tuple"
  | .len => "len"
  | .int => "int"
  | .abs => "abs"
  | .sum => "sum"
  | .all => "all"
  | .any => "any"
  | .list => "list"
  | .sorted => "sorted"
def Bi.op : Bi → List D → Option D
  | .tuple => bTuple
  | .len => bLen
  | .int => bInt
  | .abs => bAbs
  | .sum => bSum
  | .all => bAll
  | .any => bAny
  | .list => bList
  | .sorted => bSorted
theorem bi_ok {X : Cx} {pl : List Nat} {W : WX} {e : Expr} {es : List Expr} {p pos : Pos} {fs : RM} (b : Bi) (hc : X.calm = true) (hg : Gl X b.name) (hm : X.mg b.name = none) (ha : DAs X pl W (e :: es) fs) (he : plainB e = true) (hes : es.all plainB = true) :
    DE X pl W (.Call (.Name b.name p) (e :: es) [] pos) (eB b.op fs) := by
  have he' := star_ok he es X.env
  have hpl := starAny_ok (pos := pos) (env := X.env) hes
  cases b with
  | tuple => exact ⟨pe_imp (pe_callTy cd_tuple hg hm (by decide +kernel) ha.h (by decide) (by decide) he' hpl) eB_reads⟩
  | int => exact ⟨pe_imp (pe_callTy cd_int hg hm (by decide +kernel) ha.h (by decide) (by decide) he' hpl) eB_reads⟩
  | list => exact ⟨pe_imp (pe_callTy cd_list hg hm (by decide +kernel) ha.h (by decide) (by decide) he' hpl) eB_reads⟩
  | len => exact ⟨pe_imp (pe_callB cd_len hg hm (by decide +kernel) ha.h (by decide) (by decide) he' hpl) eB_reads⟩
  | abs => exact ⟨pe_imp (pe_callB cd_abs hg hm (by decide +kernel) ha.h (by decide) (by decide) he' hpl) eB_reads⟩
  | sum => exact ⟨pe_imp (pe_callB (cd_sum hc) hg hm (by decide +kernel) ha.h (by decide) (by decide) he' hpl) eB_reads⟩
  | all => exact ⟨pe_imp (pe_callB (cd_all hc) hg hm (by decide +kernel) ha.h (by decide) (by decide) he' hpl) eB_reads⟩
  | any => exact ⟨pe_imp (pe_callB (cd_any hc) hg hm (by decide +kernel) ha.h (by decide) (by decide) he' hpl) eB_reads⟩
  | sorted => exact ⟨pe_imp (pe_callB cd_sorted hg hm (by decide +kernel) ha.h (by decide) (by decide) he' hpl) eB_reads⟩
end
end DL
/-! DLN: an own list lent to a call that only reads it; sorted as a new list. -/
namespace DL
noncomputable section
open PySem PySem.Spec PyProof.Rows L2

/-! ### what stands still may be changed again -/
theorem Inv_thaw {X : Cx} {pins : List (Addr × Obj)} {σ : St} {H : Hp} {s : Shared} {a : Addr} {xs : List V} {o : Obj} (I : Inv X pins σ H s) (ha : H a = some (.frz o (.lst xs))) (hn : ∀ o u, X.H_0 a ≠ some (.frz o u)) : Inv X pins σ (upd H a (.lst xs)) s := by
  obtain ⟨e0, z, its, n, r, e⟩ := (show ObjOk X.prog X.w H s.heap a (.frz o (.lst xs)) from I.hok a _ ha)
  refine ⟨I.ok, I.os, I.bare, ⟨I.base.keep, I.base.slot, fun b o h1 h2 h3 => ?_, I.base.there, fun b ys h => ?_, fun b o u h => ?_, fun b ps h => ?_⟩, I.loc, I.cell, ?_, fun y c h => ?_, fun p hp => ?_, fun b u h => ?_, I.len⟩
  · have q := I.base.free b o h1 h2 h3
    rw [upd_ne (fun z => by subst z; rw [ha] at q; cases q)]; exact q
  · have q := I.base.tups b ys h
    rw [upd_ne (fun z => by subst z; rw [ha] at q; cases q)]; exact q
  · have q := I.base.frzs b o u h
    rw [upd_ne (fun z => by rw [z] at h; exact hn _ _ h)]; exact q
  · obtain ⟨m, q⟩ := I.base.tbls b ps h
    exact ⟨m, by rw [upd_ne (fun z => by subst z; rw [ha] at q; cases q)]; exact q⟩
  · have q := I.free
    rw [upd_ne (fun z => by rw [z, ha] at q; cases q)]; exact q
  · have q := I.freeC y c h
    rw [upd_ne (fun z => by rw [z, ha] at q; cases q)]; exact q
  · obtain ⟨h1, h2, h3⟩ := I.pin p hp
    exact ⟨h1, by rw [upd_ne (fun z => by rw [z, ha] at h2; cases h2)]; exact h2, h3⟩
  · have ow : ∀ b c, H b = some (.own c) → upd H a (.lst xs) b = some (.own c) := fun b c q => by
      rw [upd_ne (fun z => by subst z; rw [ha] at q; cases q)]; exact q
    have tu : ∀ b ys, H b = some (.tup ys) → upd H a (.lst xs) b = some (.tup ys) := fun b c q => by
      rw [upd_ne (fun z => by subst z; rw [ha] at q; cases q)]; exact q
    by_cases hb : b = a
    · subst hb
      rw [upd_same] at h
      cases h
      exact ⟨z, its, n, r, e⟩
    · rw [upd_ne hb] at h
      exact (I.hok b u h).stay (fun _ _ _ q => q) (fun c q => ow c b q) tu
/-- a list among what has come is made to stand still -/
def FrzVs (X : Cx) (Q : List V → Hp → Prop) : List V → Hp → Prop := fun vs H => ∃ a xs, H a = some (.lst xs) ∧ ∀ o, (∀ o' u, X.H_0 a ≠ some (.frz o' u)) → Q vs (upd H a (.frz o (.lst xs)))
theorem pa_frz {X : Cx} {es : List Expr} {t : TA} (h : PA X es t) : PA X es (fun σ H Q => t σ H (FrzVs X Q)) := by
  refine ⟨fun pos pins s σ H Q I hw => thn (h.run pos pins s σ H _ I hw) fun us s1 q => ?_⟩
  obtain ⟨vs, H1, I1, r, a, xs, ha, q⟩ := q
  obtain ⟨o, J⟩ := Inv_freeze I1 ha
  exact ⟨vs, _, J, r, q o fun o' u z => by
    have := I1.base.frzs a o' u z
    rw [ha] at this
    cases this⟩
def ThwQ (X : Cx) (Q : VK) : VK := fun v H => ∃ a o xs, H a = some (.frz o (.lst xs)) ∧ (∀ o' u, X.H_0 a ≠ some (.frz o' u)) ∧ Q v (upd H a (.lst xs))
theorem pe_thw {X : Cx} {e : Expr} {t : TE} (h : PE X e t) : PE X e (fun σ H Q => t σ H (ThwQ X Q)) := by
  refine ⟨fun pins s σ H Q I hw => thn (h.run pins s σ H _ I hw) fun u s1 q => ?_⟩
  obtain ⟨v, H1, I1, r, a, o, xs, ha, hn, q⟩ := q
  exact ⟨v, _, Inv_thaw I1 ha hn, r, q⟩

/-! ### data without lists -/
mutual
def D.noL : D → Bool
  | .non => true
  | .bl _ => true
  | .int _ => true
  | .str _ => true
  | .tup xs => D.noLs xs
  | .lst _ => false
  | .obj _ _ _ => false
  | .scr _ => false
def D.noLs : List D → Bool
  | [] => true
  | x :: xs => D.noL x && D.noLs xs
end
section
variable {K : PySem.W.Frag} {H H' : Hp}
mutual
theorem VR.noL (t : ∀ a vs, SqT K H a vs → SqT K H' a vs) : ∀ {d : D} {v : V}, VR K H d v → D.noL d = true → VR K H' d v
  | _, _, .non, _ => .non
  | _, _, .bl b, _ => .bl b
  | _, _, .int i, _ => .int i
  | _, _, .str z, _ => .str z
  | _, _, .tup h r, n => .tup (t _ _ h) (VRs.noL t r n)
  | _, _, .lst _ _, n => by cases n
  | _, _, .scr _, n => by cases n
  | _, _, .obj _ _ _ _, n => by cases n
theorem VRs.noL (t : ∀ a vs, SqT K H a vs → SqT K H' a vs) : ∀ {ds : List D} {vs : List V}, VRs K H ds vs → D.noLs ds = true → VRs K H' ds vs
  | _, _, .nil, _ => .nil
  | _, _, .cons h r, n => by
    obtain ⟨h1, h2⟩ := Bool.and_eq_true_iff.mp n
    exact .cons (VR.noL t h h1) (VRs.noL t r h2)
end
end

/-! ### a call with one own list lent -/
inductive BAg where
  | e (a : RE)
  | b (i : Nat)
def bgF : List BAg → DL.Env → Res (List D)
  | [], ρ => .ok [] ρ
  | .e a :: r, ρ => (a ρ).bind fun x ρ => (bgF r ρ).bind fun xs ρ => .ok (x :: xs) ρ
  | .b i :: r, ρ => if isO ρ i then (bgF r ρ).bind fun xs ρ => match own? (ρ.getD i .no) with
    | some ys => .ok (.lst ys :: xs) ρ
    | none => .bad else .bad
/-- all lent slots are the one at i -/
def bgI (i : Nat) : List BAg → Bool
  | [] => true
  | .e _ :: r => bgI i r
  | .b j :: r => decide (j = i) && bgI i r
def callB (i : Nat) (F : Fn) (as : List BAg) (ρ : DL.Env) : Res D := (bgF as ρ).bind fun xs ρ => if isO ρ i then (match F (xs.map .v) with
  | .ok (.v d) _ => if d.noL then .ok d ρ else .bad
  | .ok (.o ys) _ => if D.noLs ys then .ok (.lst ys) ρ else .bad
  | _ => .bad) else .bad
inductive BR (K : PySem.W.Frag) (σ : St) (H : Hp) : List BAg → List D → List V → Prop
  | nil : BR K σ H [] [] []
  | e {a : RE} {r : List BAg} {d : D} {ds : List D} {v : V} {vs : List V} : VR K H d v → BR K σ H r ds vs → BR K σ H (.e a :: r) (d :: ds) (v :: vs)
  | b {i : Nat} {r : List BAg} {d : D} {ds : List D} {a : Addr} {vs : List V} : σ[i]? = some (some (.ref a)) → BR K σ H r ds vs → BR K σ H (.b i :: r) (d :: ds) (.ref a :: vs)
structure DB (X : Cx) (pl : List Nat) (W : WX) (es : List Expr) (as : List BAg) : Prop where
  h : PA X es (fun σ H Q => tOfG (fun H ds vs => BR X.K σ H as ds vs) X.K pl W (bgF as) σ H Q)
section
variable {X : Cx} {pl : List Nat} {W : WX} {e : Expr} {es : List Expr} {fa : RE} {as : List BAg}
theorem db_nil : DB X pl W [] [] := ⟨pa_imp pa_nil fun σ H Q ⟨ρ, hE, hP⟩ => hP [] H hE .refl .nil⟩
theorem db_e (h : DE X pl W e fa) (hr : DB X pl W es as) (hs : starEach (e :: es) X.env = (false, eval e X.env) :: starEach es X.env) : DB X pl W (e :: es) (.e fa :: as) := by
  refine ⟨pa_imp (pa_cons h.h hr.h hs) fun σ H Q ⟨ρ, hE, hP⟩ => ?_⟩
  refine bindG hE hP fun x ρ1 y H1 E1 X1 r1 hP1 => ?_
  refine bindG (R := fun H ds vs => BR X.K σ H as ds vs) E1 hP1 fun xs ρ2 ys H2 E2 X2 r2 hP2 => ?_
  exact hP2 _ H2 E2 .refl (.e (r1.ext X2) r2)
theorem db_b {i : Nat} {x : Str} {pos : Pos} (h : PE X (.Name x pos) (tVar i)) (hr : DB X pl W es as) (hs : starEach (.Name x pos :: es) X.env = (false, eval (.Name x pos) X.env) :: starEach es X.env) : DB X pl W (.Name x pos :: es) (.b i :: as) := by
  refine ⟨pa_imp (pa_cons h hr.h hs) fun σ H Q ⟨ρ, hE, hP⟩ => ?_⟩
  unfold bgF at hP
  by_cases h0 : isO ρ i = true
  · rw [if_pos h0] at hP
    obtain ⟨xs0, h0⟩ := isO_get h0
    obtain ⟨p, vs0, g1, g2, g3⟩ := hE.own i xs0 h0
    refine ⟨.ref p, g1, ?_⟩
    refine bindG (R := fun H ds vs => BR X.K σ H as ds vs) hE hP fun xs ρ2 ys H2 E2 X2 r2 hP2 => ?_
    cases q : own? (ρ2.getD i .no) with
    | none => simp only [q] at hP2; exact hP2.elim
    | some zs =>
      simp only [q] at hP2
      exact hP2 _ H2 E2 .refl (.b g1 r2)
  · rw [if_neg h0] at hP
    exact hP.elim
end
theorem bg_own : ∀ {as : List BAg} {ρ ρ1 : DL.Env} {ds : List D} {j i : Nat}, bgF as ρ = .ok ds ρ1 → as[j]? = some (.b i) → ∃ ys, own? (ρ1.getD i .no) = some ys ∧ ds[j]? = some (.lst ys)
  | [], _, _, _, _, _, _, h => by simp at h
  | .e a :: r, ρ, ρ1, ds, j, i, h, hj => by
    unfold bgF at h
    cases q : a ρ with
    | ok x ρ2 =>
      simp only [q, Res.bind_ok] at h
      cases q2 : bgF r ρ2 with
      | ok xs ρ3 =>
        simp only [q2, Res.bind_ok] at h
        cases h
        cases j with
        | zero => simp at hj
        | succ j => simpa using bg_own (j := j) q2 (by simpa using hj)
      | exc z ρ3 => simp only [q2, Res.bind_exc] at h; cases h
      | bad => simp only [q2, Res.bind_bad] at h; cases h
    | exc z ρ3 => simp only [q, Res.bind_exc] at h; cases h
    | bad => simp only [q, Res.bind_bad] at h; cases h
  | .b k :: r, ρ, ρ1, ds, j, i, h, hj => by
    unfold bgF at h
    by_cases h0 : isO ρ k = true
    · rw [if_pos h0] at h
      cases q2 : bgF r ρ with
      | ok xs ρ3 =>
        simp only [q2, Res.bind_ok] at h
        cases q3 : own? (ρ3.getD k .no) with
        | none => simp only [q3] at h; cases h
        | some ys =>
          simp only [q3] at h
          cases h
          cases j with
          | zero =>
            simp at hj
            subst hj
            exact ⟨ys, q3, rfl⟩
          | succ j => simpa using bg_own (j := j) q2 (by simpa using hj)
      | exc z ρ3 => simp only [q2, Res.bind_exc] at h; cases h
      | bad => simp only [q2, Res.bind_bad] at h; cases h
    · rw [if_neg h0] at h; cases h
theorem own_of {s : DL.Slot} {ys : List D} (h : own? s = some ys) : s = .o ys := by
  cases s with
  | o xs => cases h; rfl
  | no => cases h
  | v d => cases h
section
variable {K : PySem.W.Frag} {pl : List Nat} {W : WX} {F : Fn} {n i : Nat}
theorem br_len : ∀ {σ : St} {H : Hp} {as : List BAg} {ds : List D} {vs : List V}, BR K σ H as ds vs → vs.length = as.length ∧ ds.length = as.length
  | _, _, _, _, _, .nil => ⟨rfl, rfl⟩
  | _, _, _, _, _, .e _ r => ⟨congrArg Nat.succ (br_len r).1, congrArg Nat.succ (br_len r).2⟩
  | _, _, _, _, _, .b _ r => ⟨congrArg Nat.succ (br_len r).1, congrArg Nat.succ (br_len r).2⟩
theorem br_vrs {σ : St} {H Hf : Hp} {a : Addr} {ys : List D} (x : Ext H Hf) (hf : VR K Hf (.lst ys) (.ref a)) (hs : σ[i]? = some (some (.ref a))) : ∀ {as : List BAg} {ds : List D} {vs : List V}, BR K σ H as ds vs → bgI i as = true →
    (∀ j : Nat, as[j]? = some (BAg.b i) → ds[j]? = some (D.lst ys)) → VRs K Hf ds vs
  | _, _, _, .nil, _, _ => .nil
  | _, _, _, .e h r, hi, hd => .cons (h.ext x) (br_vrs x hf hs r hi fun j hj => by simpa using hd (j + 1) (by simpa using hj))
  | _, _, _, .b (i := k) (d := d) h r, hi, hd => by
    obtain ⟨h1, h2⟩ := Bool.and_eq_true_iff.mp (show (decide (k = i) && bgI i _) = true from hi)
    have hk := of_decide_eq_true h1
    rw [hk, hs] at h
    have ea := Option.some.inj (Option.some.inj h)
    have := hd 0 (by rw [hk]; rfl)
    simp at this
    rw [this, ← ea]
    exact .cons hf (br_vrs x hf hs r h2 fun j hj => by simpa using hd (j + 1) (by simpa using hj))
theorem vals_env {H : Hp} {ds : List D} {vs : List V} (r : VRs K H ds vs) : EnvR K (ds.map .v) (vs.map some) H ∧ ∀ a, ¬ Own (ds.map .v) (vs.map some) a := by
  refine ⟨⟨by rw [List.length_map, List.length_map, r.length], fun j d hj => ?_, fun j xs hj => ?_, fun j k xs ys a hj => ?_⟩, fun a ⟨j, xs, hj, _⟩ => ?_⟩
  · rw [List.getElem?_map] at hj
    obtain ⟨d', h1, h2⟩ := Option.map_eq_some_iff.mp hj
    cases h2
    obtain ⟨v, h3, h4⟩ := r.get h1
    exact ⟨v, by rw [List.getElem?_map, h3]; rfl, h4⟩
  · rw [List.getElem?_map] at hj
    obtain ⟨d', h1, h2⟩ := Option.map_eq_some_iff.mp hj
    cases h2
  · rw [List.getElem?_map] at hj
    obtain ⟨d', h1, h2⟩ := Option.map_eq_some_iff.mp hj
    cases h2
  · rw [List.getElem?_map] at hj
    obtain ⟨d', h1, h2⟩ := Option.map_eq_some_iff.mp hj
    cases h2
theorem callB_reads {X : Cx} {as : List BAg} (hi : bgI i as = true) (hl : as.length = n) : ∀ σ H Q, tD X.K pl W (callB i F as) σ H Q →
    tOfG (fun H ds vs => BR X.K σ H as ds vs) X.K pl W (bgF as) σ H (FrzVs X fun vs H1 => spD X.K n F vs H1 (ThwQ X (FrzQ Q)) (WE W σ)) := by
  rintro σ H Q ⟨ρ, hE, hP⟩
  unfold callB at hP
  refine ⟨ρ, hE, ?_⟩
  cases q : bgF as ρ with
  | bad => rw [q] at hP; exact hP
  | exc z ρ1 => rw [q] at hP; exact hP
  | ok ds ρ1 =>
    rw [q] at hP
    simp only [Res.bind_ok] at hP
    intro vs H1 E1 S1 r1
    have hP1 := PostG.trans (R := VR X.K) S1 hP
    by_cases h0 : isO ρ1 i = true
    · rw [if_pos h0] at hP1
      obtain ⟨xs0, h0⟩ := isO_get h0
      obtain ⟨a, ws0, g1, g2, g3⟩ := E1.own i xs0 h0
      refine ⟨a, ws0, g2, fun o hn => ?_⟩
      obtain ⟨f1, f2, f3⟩ := E1.freeze (pl := pl) (o := o) h0 g1 g2 g3
      have hfz : VR X.K (upd H1 a (.frz o (.lst ws0))) (.lst xs0) (.ref a) := .lst ⟨o, upd_same⟩ (g3.ext f3)
      have rs := br_vrs f3 hfz g1 r1 hi fun j hj => by
        obtain ⟨ys, y1, y2⟩ := bg_own q hj
        have e := own_of y1
        rw [List.getD_eq_getElem?_getD, h0] at e
        cases e
        exact y2
      obtain ⟨v1, v2⟩ := vals_env rs
      refine ⟨ds.map .v, by rw [List.length_map, (br_len r1).2, hl], v1, ?_⟩
      -- behind the call
      have back : ∀ (as' : DL.Env) (H' : Hp), Step [] (ds.map .v) (vs.map some) (upd H1 a (.frz o (.lst ws0))) as' (vs.map some) H' → H' a = some (.frz o (.lst ws0)) ∧ (∀ b u, H1 b = some u → upd H' a (.lst ws0) b = some u) ∧
          ∀ b us, SqT X.K H' b us → SqT X.K (upd H' a (.lst ws0)) b us := fun as' H' st => by
        have k1 := st.keep a _ upd_same (v2 a)
        refine ⟨k1, fun b u hb => ?_, fun b us hb => ?_⟩
        · by_cases e : b = a
          · subst e
            rw [g2] at hb
            cases hb
            exact upd_same
          · rw [upd_ne e]
            exact st.keep b u (by rw [upd_ne e]; exact hb) (v2 b)
        · rcases hb with (hb | ⟨o2, hb⟩) | hb
          · exact .inl (.inl (by rw [upd_ne (fun z => by rw [z, k1] at hb; cases hb)]; exact hb))
          · exact .inl (.inr ⟨o2, by rw [upd_ne (fun z => by rw [z, k1] at hb; cases hb)]; exact hb⟩)
          · exact .inr hb
      cases q2 : F (ds.map .v) with
      | bad => simp only [q2] at hP1; exact hP1.elim
      | exc z s' => simp only [q2] at hP1; exact hP1.elim
      | ok rt s' =>
        cases rt with
        | v d =>
          simp only [q2] at hP1
          by_cases hd : d.noL = true
          · rw [if_pos hd] at hP1
            intro v H' e' st rr
            obtain ⟨k1, k2, k3⟩ := back _ _ st
            refine ⟨a, o, ws0, k1, hn, .inl (hP1 v _ (E1.heap k2) (Step.heap k2) (rr.noL k3 hd))⟩
          · rw [if_neg hd] at hP1
            exact hP1.elim
        | o ys =>
          simp only [q2] at hP1
          by_cases hd : D.noLs ys = true
          · rw [if_pos hd] at hP1
            intro b ws H' e' st h1 h2 h3 h4
            obtain ⟨k1, k2, k3⟩ := back _ _ st
            have hba : b ≠ a := fun z => by rw [z, k1] at h1; cases h1
            have hb2 : upd H' a (.lst ws0) b = some (.lst ws) := by rw [upd_ne hba]; exact h1
            have hb0 : H1 b = none := by
              rw [upd_ne hba] at h4
              exact h4
            refine ⟨a, o, ws0, k1, hn, .inr ⟨b, ws, rfl, hb2, fun o2 => ?_⟩⟩
            have Eh : EnvR X.K ρ1 σ (upd H' a (.lst ws0)) := E1.heap k2
            have nb : ¬ Own ρ1 σ b := fun z => by
              obtain ⟨us, e⟩ := E1.ownLst z
              rw [hb0] at e
              cases e
            obtain ⟨y1, y2⟩ := Eh.frzNew (o := o2) hb2 nb
            exact hP1 _ _ y1 (Step.frzNew (Step.heap k2) hb0) (.lst ⟨o2, upd_same⟩ ((h2.noL k3 hd).ext y2))
          · rw [if_neg hd] at hP1
            exact hP1.elim
    · rw [if_neg h0] at hP1
      exact hP1.elim
end
section
variable {X : Cx} {pl : List Nat} {W : WX} {F : Fn} {as : List BAg} {n k i : Nat} {f : Addr} {fd : FuncData} {ps : List Str} {x : Str} {p pos : Pos} {e : Expr} {es : List Expr} {a : Expr} {fa : RE}
theorem de_callB (G : FnOk X.prog X.w X.K X.mg X.base (L2.CX X.prog X.w) k f fd ps (spD X.K n F)) (hr : Room k X.A) (hg : Gl X x) (hm : X.mg x = some (.ref f)) (hk : PySem.W.keepIn X.K (.ref f) = true) (hb : Binds X.K fd ps [])
    (hx : ∀ σ, PassesAt (L2.CX X.prog X.w) X σ (WE W σ)) (ha : DB X pl W (e :: es) as) (hi : bgI i as = true) (hl : as.length = n) (hdb : (x == ("__debug__" : Str)) = false)
    (he : starEach (e :: es) X.env = (false, eval e X.env) :: starEach es X.env) (hpl : (backTo pos (starEach es X.env)).any (·.1) = false) : DE X pl W (.Call (.Name x p) (e :: es) [] pos) (callB i F as) :=
  ⟨pe_imp (pe_frz (pe_thw (pe_callS G hr hg hm hk hb hx (pa_frz ha.h) hdb he hpl))) fun σ H Q h => callB_reads hi hl σ H Q h⟩
/-! ### sorted, a new list -/
def mSorted (a : RE) : RM := fun ρ => (a ρ).bind fun y ρ => match bSorted [y] with
  | some (.lst ys) => .ok ys ρ
  | _ => .bad
theorem dm_sorted (hg : Gl X "sorted") (hm : X.mg "sorted" = none) (ha : DE X pl W a fa) (he : starEach [a] X.env = (false, eval a X.env) :: starEach [] X.env) : DM X pl W (.Call (.Name "sorted" p) [a] [] pos) (mSorted fa) := by
  refine ⟨pe_imp (pe_callB cm_sorted hg hm (by decide +kernel) (pa_cons ha.h pa_nil he) (by decide) (by decide) he) fun σ H Q ⟨ρ, hE, hP⟩ => ?_⟩
  refine bindM hE hP fun y ρ1 z H1 E1 S1 r1 hP1 => ?_
  cases q : bSorted [y] with
  | none => simp only [q] at hP1; exact hP1.elim
  | some d =>
    cases d with
    | lst ys =>
      simp only [q] at hP1
      refine ⟨[y], ys, .cons r1 .nil, q, fun p ws hp rw_ => ?_⟩
      have kp := upd_keep (o := .lst ws) hp
      exact hP1 p ws _ (E1.heap kp) (Step.heap kp) upd_same (rw_.ext (Gr.new hp).ext) (fun z => by
        obtain ⟨vs, q⟩ := E1.ownLst z
        rw [hp] at q; cases q) hp
    | _ => simp only [q] at hP1; exact hP1.elim
end
end
end DL
/-! DLM: reckoning with readings: the combinators applied; loops, comprehensions. -/
namespace DL

section
variable {ρ : Env} {i : Nat} {a b c : RE} {t u : RT} {m r : RM} {s s' : RS}
@[simp] theorem eV_ap : eV i ρ = match ρ.getD i .no with
  | .v d => .ok d ρ
  | .o xs => .ok (.lst xs) (ρ.set i (.v (.lst xs)))
  | .no => .bad := rfl
@[simp] theorem eC_ap {d : D} : eC d ρ = .ok d ρ := rfl
@[simp] theorem e1_ap {op : D → Option D} : e1 op a ρ = (a ρ).bind fun x ρ => give (op x) ρ := rfl
@[simp] theorem e2_ap {op : D → D → Option D} : e2 op a b ρ = (a ρ).bind fun x ρ => (b ρ).bind fun y ρ => give (op x y) ρ := rfl
@[simp] theorem tE_ap : tE a ρ = (a ρ).bind fun x ρ => give (asB x) ρ := rfl
@[simp] theorem tNotD_ap : tNotD t ρ = (t ρ).bind fun b ρ => .ok (!b) ρ := rfl
@[simp] theorem tAndD_ap : tAndD t u ρ = (t ρ).bind fun b ρ => if b then u ρ else .ok false ρ := rfl
@[simp] theorem tOrD_ap : tOrD t u ρ = (t ρ).bind fun b ρ => if b then .ok true ρ else u ρ := rfl
@[simp] theorem eIf_ap : eIf t a b ρ = (t ρ).bind fun k ρ => if k then a ρ else b ρ := rfl
@[simp] theorem eAnd_ap : eAnd a b ρ = (a ρ).bind fun x ρ => match x with
  | .bl true => b ρ
  | .bl false => .ok (.bl false) ρ
  | _ => .bad := rfl
@[simp] theorem eOr_ap : eOr a b ρ = (a ρ).bind fun x ρ => match x with
  | .bl true => .ok (.bl true) ρ
  | .bl false => b ρ
  | _ => .bad := rfl
@[simp] theorem eNot_ap : eNot a ρ = (a ρ).bind fun x ρ => give ((asB x).map fun b => .bl (!b)) ρ := rfl
@[simp] theorem eIsN_ap : eIsN a ρ = (a ρ).bind fun x ρ => .ok (.bl x.isN) ρ := rfl
@[simp] theorem eNotN_ap : eNotN a ρ = (a ρ).bind fun x ρ => .ok (.bl (!x.isN)) ρ := rfl
@[simp] theorem eChain_ap {op op' : D → D → Option D} : eChain op op' a b c ρ = (a ρ).bind fun x ρ => (b ρ).bind fun y ρ => (give (op x y) ρ).bind fun k ρ => match k with
  | .bl true => (c ρ).bind fun z ρ => give (op' y z) ρ
  | .bl false => .ok (.bl false) ρ
  | _ => .bad := rfl
@[simp] theorem eNil_ap : eNil ρ = .ok [] ρ := rfl
@[simp] theorem eCons_ap : eCons a r ρ = (a ρ).bind fun x ρ => (r ρ).bind fun xs ρ => .ok (x :: xs) ρ := rfl
@[simp] theorem eTup_ap : eTup r ρ = (r ρ).bind fun xs ρ => if xs.length ≤ szL then .ok (.tup xs) ρ else .bad := rfl
@[simp] theorem mLst_ap : mLst r ρ = (r ρ).bind fun xs ρ => if xs.length ≤ szL then .ok xs ρ else .bad := rfl
@[simp] theorem eM_ap : eM m ρ = (m ρ).bind fun xs ρ => .ok (.lst xs) ρ := rfl
@[simp] theorem eB_ap {op : List D → Option D} : eB op r ρ = (r ρ).bind fun xs ρ => give (op xs) ρ := rfl
@[simp] theorem ePart_ap : ePart a ρ = (a ρ).bind fun x ρ => match x with
  | .int i => .ok (some i) ρ
  | _ => .bad := rfl
@[simp] theorem eNoPart_ap : eNoPart ρ = .ok none ρ := rfl
@[simp] theorem eCut_ap {lo hi : Env → Res (Option Int)} : eCut a lo hi ρ = (a ρ).bind fun x ρ => (lo ρ).bind fun l ρ => (hi ρ).bind fun h ρ => give (opCut l h x) ρ := rfl
@[simp] theorem oLen_ap : oLen i ρ = give ((own? (ρ.getD i .no)).map fun xs => .int xs.length) ρ := rfl
@[simp] theorem oIx_ap : oIx i b ρ = if isO ρ i then (b ρ).bind fun y ρ => give ((own? (ρ.getD i .no)).bind fun xs => match y with
  | .int k => atL xs k
  | _ => none) ρ else .bad := rfl
@[simp] theorem oPop_ap : oPop i ρ = match (own? (ρ.getD i .no)).bind popL with
  | some (y, ys) => .ok y (ρ.set i (.o ys))
  | none => .bad := rfl
@[simp] theorem oPopAt_ap : oPopAt i b ρ = if isO ρ i then (b ρ).bind fun y ρ => match (own? (ρ.getD i .no)).bind fun xs => popAtL xs y with
  | some (z, ys) => .ok z (ρ.set i (.o ys))
  | none => .bad else .bad := rfl
@[simp] theorem mRep_ap : mRep m b ρ = (m ρ).bind fun xs ρ => (b ρ).bind fun y ρ => match y with
  | .int k => (match repL xs k with
    | some ys => .ok ys ρ
    | none => .bad)
  | _ => .bad := rfl
@[simp] theorem mList_ap : mList a ρ = (a ρ).bind fun y ρ => match items? y with
  | some ys => .ok ys ρ
  | none => .bad := rfl
@[simp] theorem itE_ap : itE a ρ = (a ρ).bind fun x ρ => give (items? x) ρ := rfl
@[simp] theorem itR1_ap : itR1 a ρ = (a ρ).bind fun x ρ => match x with
  | .int j => if ok62 j then .ok (rangeL 0 j.toNat) ρ else .bad
  | _ => .bad := rfl
@[simp] theorem itR2_ap : itR2 a b ρ = (a ρ).bind fun x ρ => (b ρ).bind fun y ρ => match x, y with
  | .int i, .int j => if ok62 i && ok62 j then .ok (rangeL i (j - i).toNat) ρ else .bad
  | _, _ => .bad := rfl
@[simp] theorem itZ_ap : itZ a b ρ = (a ρ).bind fun x ρ => (b ρ).bind fun y ρ => match x, y with
  | .tup xs, .tup ys => .ok (zipD xs ys) ρ
  | .lst xs, .lst ys => .ok (zipD xs ys) ρ
  | .tup xs, .lst ys => .ok (zipD xs ys) ρ
  | .lst xs, .tup ys => .ok (zipD xs ys) ρ
  | _, _ => .bad := rfl
@[simp] theorem sNx_ap : sNx ρ = .ok .nx ρ := rfl
@[simp] theorem sBk_ap : sBk ρ = .ok .bk ρ := rfl
@[simp] theorem sCt_ap : sCt ρ = .ok .ct ρ := rfl
@[simp] theorem sSeq_ap : sSeq s s' ρ = (s ρ).bind fun f ρ => match f with
  | .nx => s' ρ
  | _ => .ok f ρ := rfl
@[simp] theorem sRet_ap : sRet a ρ = (a ρ).bind fun d ρ => .ok (.rt d) ρ := rfl
@[simp] theorem sRetN_ap : sRetN ρ = .ok (.rt .non) ρ := rfl
@[simp] theorem sRetO_ap : sRetO m ρ = (m ρ).bind fun xs ρ => .ok (.ro xs) ρ := rfl
@[simp] theorem sSet_ap : sSet i a ρ = (a ρ).bind fun d ρ => .ok .nx (ρ.set i (.v d)) := rfl
@[simp] theorem sSetO_ap : sSetO i m ρ = (m ρ).bind fun xs ρ => .ok .nx (ρ.set i (.o xs)) := rfl
@[simp] theorem sDrop_ap : sDrop a ρ = (a ρ).bind fun _ ρ => .ok .nx ρ := rfl
@[simp] theorem sIf_ap : sIf t s s' ρ = (t ρ).bind fun k ρ => if k then s ρ else s' ρ := rfl
@[simp] theorem oUp_ap {op : List D → D → Option (List D)} : oUp op i a ρ = if isO ρ i then (a ρ).bind fun d ρ => match (own? (ρ.getD i .no)).bind fun xs => op xs d with
  | some ys => .ok .nx (ρ.set i (.o ys))
  | none => .bad else .bad := rfl
@[simp] theorem oSet_ap : oSet i b a ρ = (a ρ).bind fun d ρ => if isO ρ i then (b ρ).bind fun y ρ => match (own? (ρ.getD i .no)).bind fun xs => setL xs y d with
  | some ys => .ok .nx (ρ.set i (.o ys))
  | none => .bad else .bad := rfl
@[simp] theorem sAsg_ap {g : Tg} : sAsg g a ρ = (a ρ).bind fun d ρ => match g.sto d ρ with
  | some ρ => .ok .nx ρ
  | none => .bad := rfl
@[simp] theorem sPar_ap {j : Nat} : sPar i j r ρ = (r ρ).bind fun vs ρ => match vs with
  | [v, w] => .ok .nx ((ρ.set i (.v v)).set j (.v w))
  | _ => .bad := rfl
@[simp] theorem sFor_ap {it : RM} {g : Tg} : sFor it g s ρ = (it ρ).bind fun xs ρ => forF g s xs ρ := rfl
@[simp] theorem eCal_ap {F : Fn} {as : List Ag} : eCal F as ρ = (callG F as ρ).bind fun r ρ => match r with
  | .v d => .ok d ρ
  | .o xs => .ok (.lst xs) ρ := rfl
@[simp] theorem mCal_ap {F : Fn} {as : List Ag} : mCal F as ρ = (callG F as ρ).bind fun r ρ => match r with
  | .v _ => .bad
  | .o xs => .ok xs ρ := rfl
@[simp] theorem callG_ap {F : Fn} {as : List Ag} : callG F as ρ = (agF as ρ).bind fun xs ρ => match slotsF as xs ρ with
  | some s => (match F s with
    | .ok r s' => (match backF as s' ρ with
      | some ρ' => .ok r ρ'
      | none => .bad)
    | .exc x s' => (match backF as s' ρ with
      | some ρ' => .exc x ρ'
      | none => .bad)
    | .bad => .bad)
  | none => .bad := rfl
@[simp] theorem callB_ap {F : Fn} {as : List BAg} : callB i F as ρ = (bgF as ρ).bind fun xs ρ => if isO ρ i then (match F (xs.map .v) with
  | .ok (.v d) _ => if d.noL then .ok d ρ else .bad
  | .ok (.o ys) _ => if D.noLs ys then .ok (.lst ys) ρ else .bad
  | _ => .bad) else .bad := rfl
@[simp] theorem bgF_nil : bgF [] ρ = .ok [] ρ := rfl
@[simp] theorem bgF_e {as : List BAg} : bgF (.e a :: as) ρ = (a ρ).bind fun x ρ => (bgF as ρ).bind fun xs ρ => .ok (x :: xs) ρ := rfl
@[simp] theorem bgF_b {as : List BAg} : bgF (.b i :: as) ρ = if isO ρ i then (bgF as ρ).bind fun xs ρ => match own? (ρ.getD i .no) with
    | some ys => .ok (.lst ys :: xs) ρ
    | none => .bad else .bad := rfl
@[simp] theorem mSorted_ap : mSorted a ρ = (a ρ).bind fun y ρ => match bSorted [y] with
  | some (.lst ys) => .ok ys ρ
  | _ => .bad := rfl
@[simp] theorem agF_nil : agF [] ρ = .ok [] ρ := rfl
@[simp] theorem agF_e {as : List Ag} : agF (.e a :: as) ρ = (a ρ).bind fun x ρ => (agF as ρ).bind fun xs ρ => .ok (x :: xs) ρ := rfl
@[simp] theorem agF_o {as : List Ag} : agF (.o i :: as) ρ = if isO ρ i then agF as ρ else .bad := rfl
@[simp] theorem slotsF_nil : slotsF [] [] ρ = some [] := rfl
@[simp] theorem slotsF_e {as : List Ag} {x : D} {xs : List D} : slotsF (.e a :: as) (x :: xs) ρ = (slotsF as xs ρ).map fun s => .v x :: s := rfl
@[simp] theorem slotsF_o {as : List Ag} {xs : List D} : slotsF (.o i :: as) xs ρ = match ρ.getD i .no with
  | .o ys => (slotsF as xs ρ).map fun s => .o ys :: s
  | _ => none := rfl
@[simp] theorem backF_nil {s : Env} : backF [] s ρ = some ρ := rfl
@[simp] theorem backF_e {as : List Ag} {x : Slot} {s : Env} : backF (.e a :: as) (x :: s) ρ = backF as s ρ := rfl
@[simp] theorem backF_o {as : List Ag} {ys : List D} {s : Env} : backF (.o i :: as) (.o ys :: s) ρ = backF as s (ρ.set i (.o ys)) := rfl
@[simp] theorem bind_ok' {α β : Type} (a : α) (k : α → Env → Res β) : (Res.ok a ρ).bind k = k a ρ := rfl
@[simp] theorem bind_exc' {α β : Type} (x : Exn) (k : α → Env → Res β) : (Res.exc x ρ : Res α).bind k = .exc x ρ := rfl
@[simp] theorem bind_bad' {α β : Type} (k : α → Env → Res β) : (Res.bad : Res α).bind k = .bad := rfl
@[simp] theorem give_some {α : Type} (a : α) : give (some a) ρ = .ok a ρ := rfl
@[simp] theorem give_none {α : Type} : give (none : Option α) ρ = .bad := rfl
@[simp] theorem isO_o : isO ρ i = (own? (ρ.getD i .no)).isSome := rfl
@[simp] theorem own_o {xs : List D} : own? (.o xs) = some xs := rfl
@[simp] theorem own_v {d : D} : own? (.v d) = none := rfl
@[simp] theorem own_no : own? .no = none := rfl
@[simp] theorem asB_bl {b : Bool} : asB (.bl b) = some b := rfl
@[simp] theorem opAdd_int {x y : Int} : opAdd (.int x) (.int y) = some (.int (x + y)) := rfl
@[simp] theorem opSub_int {x y : Int} : opSub (.int x) (.int y) = some (.int (x - y)) := rfl
@[simp] theorem opMul_int {x y : Int} : opMul (.int x) (.int y) = if smallF x || smallF y then some (.int (x * y)) else none := rfl
@[simp] theorem opMod_int {x y : Int} : opMod (.int x) (.int y) = if 0 < y then some (.int (x % y)) else none := rfl
@[simp] theorem opDiv_int {x y : Int} : opDiv (.int x) (.int y) = if okDv y = true then some (.int (x / y)) else none := rfl
@[simp] theorem opNeg_int {x : Int} : opNeg (.int x) = some (.int (-x)) := rfl
@[simp] theorem opLt_int {x y : Int} : opLt (.int x) (.int y) = some (.bl (decide (x < y))) := rfl
@[simp] theorem opLe_int {x y : Int} : opLe (.int x) (.int y) = some (.bl (decide (x ≤ y))) := rfl
@[simp] theorem opGt_int {x y : Int} : opGt (.int x) (.int y) = some (.bl (decide (y < x))) := rfl
@[simp] theorem opGe_int {x y : Int} : opGe (.int x) (.int y) = some (.bl (decide (y ≤ x))) := rfl
@[simp] theorem opEq_int {x y : Int} : opEq (.int x) (.int y) = some (.bl (x == y)) := rfl
@[simp] theorem opNe_int {x y : Int} : opNe (.int x) (.int y) = some (.bl (!(x == y))) := rfl
@[simp] theorem opAdd_lst {x y : List D} : opAdd (.lst x) (.lst y) = if x.length + y.length ≤ szL then some (.lst (x ++ y)) else none := rfl
@[simp] theorem opAdd_tup {x y : List D} : opAdd (.tup x) (.tup y) = if x.length + y.length ≤ szL then some (.tup (x ++ y)) else none := rfl
@[simp] theorem items_tup {xs : List D} : items? (.tup xs) = some xs := rfl
@[simp] theorem items_lst {xs : List D} : items? (.lst xs) = some xs := rfl
@[simp] theorem opIx_tup {xs : List D} {k : Int} : opIx (.tup xs) (.int k) = atL xs k := rfl
@[simp] theorem opIx_lst {xs : List D} {k : Int} : opIx (.lst xs) (.int k) = atL xs k := rfl
@[simp] theorem bTuple_l {xs : List D} : bTuple [.lst xs] = some (.tup xs) := rfl
@[simp] theorem bTuple_t {xs : List D} : bTuple [.tup xs] = some (.tup xs) := rfl
@[simp] theorem bList_l {xs : List D} : bList [.lst xs] = some (.lst xs) := rfl
@[simp] theorem bList_t {xs : List D} : bList [.tup xs] = some (.lst xs) := rfl
@[simp] theorem bLen_l {xs : List D} : bLen [.lst xs] = some (.int xs.length) := rfl
@[simp] theorem bLen_t {xs : List D} : bLen [.tup xs] = some (.int xs.length) := rfl
@[simp] theorem bInt_i {x : Int} : bInt [.int x] = some (.int x) := rfl
@[simp] theorem bInt_b {x : Bool} : bInt [.bl x] = some (.int (if x then 1 else 0)) := rfl
@[simp] theorem bAbs_i {x : Int} : bAbs [.int x] = some (.int (if x < 0 then -x else x)) := rfl
@[simp] theorem sto_n {d : D} : (Tg.n i).sto d ρ = some (ρ.set i (.v d)) := rfl
@[simp] theorem sto_t2 {j : Nat} {x y : D} : (Tg.t [i, j]).sto (.tup [x, y]) ρ = some ((ρ.set i (.v x)).set j (.v y)) := rfl
@[simp] theorem setAll_nil {xs : List D} : setAll [] xs ρ = ρ := rfl
@[simp] theorem setAll_cons {is : List Nat} {x : D} {xs : List D} : setAll (i :: is) (x :: xs) ρ = setAll is xs (ρ.set i (.v x)) := rfl
@[simp] theorem wipe_nil : wipeE ρ [] = ρ := rfl
@[simp] theorem wipe_cons {is : List Nat} : wipeE ρ (i :: is) = (wipeE ρ is).set i .no := rfl
@[simp] theorem tTrue_ap : tTrue ρ = .ok true ρ := rfl
@[simp] theorem noX_ok {α : Type} {x : α} : noX (Res.ok x ρ) = .ok x ρ := rfl
@[simp] theorem atL_nat {xs : List D} {k : Nat} (h : k < xs.length) : atL xs (k : Int) = xs[k]? := by
  unfold atL ixOf
  rw [if_pos (by omega), if_pos (by omega)]
  simp
end

section
variable {ρ : Env} {i : Nat} {a : RE} {neg : Bool}
@[simp] theorem oIn_ap : oIn neg i a ρ = (a ρ).bind fun x ρ => give ((own? (ρ.getD i .no)).bind fun ys => if D.shp x && D.shp (.lst ys) then some (.bl (if neg then !ys.any fun z => D.eq z x else ys.any fun z => D.eq z x)) else none) ρ := rfl
theorem kit_tt : L2.kitB "tuple" "tuple" = some true := by decide +kernel
theorem kit_lt : L2.kitB "list" "tuple" = some false := by decide +kernel
theorem kit_nt : L2.kitB "NoneType" "tuple" = some false := by decide +kernel
theorem kit_it : L2.kitB "int" "tuple" = some false := by decide +kernel
theorem kit_st : L2.kitB "str" "tuple" = some false := by decide +kernel
theorem kit_bt : L2.kitB "bool" "tuple" = some false := by decide +kernel
theorem kit_ti : L2.kitB "tuple" "int" = some false := by decide +kernel
theorem kit_li : L2.kitB "list" "int" = some false := by decide +kernel
theorem kit_ni : L2.kitB "NoneType" "int" = some false := by decide +kernel
theorem kit_ii : L2.kitB "int" "int" = some true := by decide +kernel
theorem kit_si : L2.kitB "str" "int" = some false := by decide +kernel
theorem kit_bi : L2.kitB "bool" "int" = some true := by decide +kernel
theorem kit_tb : L2.kitB "tuple" "bool" = some false := by decide +kernel
theorem kit_lb : L2.kitB "list" "bool" = some false := by decide +kernel
theorem kit_nb : L2.kitB "NoneType" "bool" = some false := by decide +kernel
theorem kit_ib : L2.kitB "int" "bool" = some false := by decide +kernel
theorem kit_sb : L2.kitB "str" "bool" = some false := by decide +kernel
theorem kit_bb : L2.kitB "bool" "bool" = some true := by decide +kernel
@[simp] theorem isi_tt {xs : List D} : opIsi "tuple" (.tup xs) = some (.bl true) := by unfold opIsi isiB; rw [kit_tt]; rfl
@[simp] theorem isi_lt {xs : List D} : opIsi "tuple" (.lst xs) = some (.bl false) := by unfold opIsi isiB; rw [kit_lt]; rfl
@[simp] theorem isi_nt : opIsi "tuple" .non = some (.bl false) := by unfold opIsi isiB; rw [kit_nt]; rfl
@[simp] theorem isi_it {x : Int} : opIsi "tuple" (.int x) = some (.bl false) := by unfold opIsi isiB; rw [kit_it]; rfl
@[simp] theorem isi_st {x : PySem.Str} : opIsi "tuple" (.str x) = some (.bl false) := by unfold opIsi isiB; rw [kit_st]; rfl
@[simp] theorem isi_bt {x : Bool} : opIsi "tuple" (.bl x) = some (.bl false) := by unfold opIsi isiB; rw [kit_bt]; rfl
@[simp] theorem isi_ti {xs : List D} : opIsi "int" (.tup xs) = some (.bl false) := by unfold opIsi isiB; rw [kit_ti]; rfl
@[simp] theorem isi_li {xs : List D} : opIsi "int" (.lst xs) = some (.bl false) := by unfold opIsi isiB; rw [kit_li]; rfl
@[simp] theorem isi_ni : opIsi "int" .non = some (.bl false) := by unfold opIsi isiB; rw [kit_ni]; rfl
@[simp] theorem isi_ii {x : Int} : opIsi "int" (.int x) = some (.bl true) := by unfold opIsi isiB; rw [kit_ii]; rfl
@[simp] theorem isi_si {x : PySem.Str} : opIsi "int" (.str x) = some (.bl false) := by unfold opIsi isiB; rw [kit_si]; rfl
@[simp] theorem isi_bi {x : Bool} : opIsi "int" (.bl x) = some (.bl true) := by unfold opIsi isiB; rw [kit_bi]; rfl
@[simp] theorem isi_tb {xs : List D} : opIsi "bool" (.tup xs) = some (.bl false) := by unfold opIsi isiB; rw [kit_tb]; rfl
@[simp] theorem isi_lb {xs : List D} : opIsi "bool" (.lst xs) = some (.bl false) := by unfold opIsi isiB; rw [kit_lb]; rfl
@[simp] theorem isi_nb : opIsi "bool" .non = some (.bl false) := by unfold opIsi isiB; rw [kit_nb]; rfl
@[simp] theorem isi_ib {x : Int} : opIsi "bool" (.int x) = some (.bl false) := by unfold opIsi isiB; rw [kit_ib]; rfl
@[simp] theorem isi_sb {x : PySem.Str} : opIsi "bool" (.str x) = some (.bl false) := by unfold opIsi isiB; rw [kit_sb]; rfl
@[simp] theorem isi_bb {x : Bool} : opIsi "bool" (.bl x) = some (.bl true) := by unfold opIsi isiB; rw [kit_bb]; rfl
end

/-! ### comprehensions -/
theorem back_same {ρ ρ' : Env} {own : List Nat} (h : wipeE ρ' own = wipeE ρ own) : backE ρ ρ' own = ρ := by
  have hl : ρ.length = ρ'.length := by
    have := congrArg List.length h
    rw [wipeE_len, wipeE_len] at this
    exact this.symm
  refine List.ext_getElem? fun j => ?_
  rw [backE_get hl]
  by_cases hj : j ∈ own
  · rw [if_pos hj]
  · rw [if_neg hj, ← wipeE_get (ρ := ρ') hj, h, wipeE_get hj]
/-- a run through a comprehension with a state: E the frame (its own names wiped), p the test, g the item, n the next state -/
def lcR {α β : Type} (p : α → β → Bool) (g : α → β → D) (n : α → β → α) : List β → α → List D × α
  | [], s => ([], s)
  | x :: xs, s => if p s x then (g s x :: (lcR p g n xs (n s x)).1, (lcR p g n xs (n s x)).2) else lcR p g n xs (n s x)
theorem lcF_run {α β : Type} {own : List Nat} {t : Tg} {tt : RT} {a : RE} (emb : β → D) (E : α → Env) (p : α → β → Bool) (g : α → β → D) (n : α → β → α) (I : α → Prop) :
    ∀ (xs : List β) (s : α) (acc : List D) (ρ : Env), I s → wipeE ρ own = E s → acc.length + xs.length ≤ szL →
      (∀ s x, I s → x ∈ xs → I (n s x) ∧ ∃ ρ1 ρ2, t.sto (emb x) (E s) = some ρ1 ∧ tt ρ1 = .ok (p s x) ρ2 ∧ (p s x = false → wipeE ρ2 own = E (n s x)) ∧ (p s x = true → ∃ ρ3, a ρ2 = .ok (g s x) ρ3 ∧ wipeE ρ3 own = E (n s x))) →
      ∃ ρ', lcF own t tt a (xs.map emb) acc ρ = .ok (acc ++ (lcR p g n xs s).1) ρ' ∧ wipeE ρ' own = E (lcR p g n xs s).2 ∧ I (lcR p g n xs s).2
  | [], s, acc, ρ, hI, hE, hl, h => ⟨ρ, by simp [lcF, lcR], hE, hI⟩
  | x :: xs, s, acc, ρ, hI, hE, hl, h => by
    obtain ⟨hI', ρ1, ρ2, h1, h2, h3, h4⟩ := h s x hI (List.mem_cons_self ..)
    have hr := fun acc' ρ' (hl' : acc'.length + xs.length ≤ szL) (e : wipeE ρ' own = E (n s x)) => lcF_run emb E p g n I xs (n s x) acc' ρ' hI' e hl' fun s x hs hx => h s x hs (List.mem_cons_of_mem _ hx)
    rw [List.map_cons]
    unfold lcF lcR
    rw [hE, h1]
    simp only [h2, noX_ok, bind_ok']
    have hl' : acc.length + (xs.length + 1) ≤ szL := hl
    cases hp : p s x with
    | false =>
      simp only [Bool.false_eq_true, if_false]
      exact hr acc ρ2 (by omega) (h3 hp)
    | true =>
      obtain ⟨ρ3, h5, h6⟩ := h4 hp
      simp only [if_true, h5, noX_ok, bind_ok']
      rw [if_pos (by omega)]
      obtain ⟨ρ', g1, g2, g3⟩ := hr (acc ++ [g s x]) ρ3 (by simp; omega) h6
      exact ⟨ρ', by rw [g1]; simp, g2, g3⟩

/-- the frame stays -/
theorem mLc_f {β : Type} {emb : β → D} {it : RM} {own : List Nat} {t : Tg} {tt : RT} {a : RE} {ρ ρ0 : Env} {xs : List β} (p : β → Bool) (g : β → D) (hit : it ρ0 = .ok (xs.map emb) ρ) (hl : xs.length ≤ szL)
    (h : ∀ x ∈ xs, ∃ ρ1, t.sto (emb x) (wipeE ρ own) = some ρ1 ∧ wipeE ρ1 own = wipeE ρ own ∧ tt ρ1 = .ok (p x) ρ1 ∧ (p x = true → a ρ1 = .ok (g x) ρ1)) :
    mLc it own t tt a ρ0 = .ok ((xs.filter p).map g) ρ := by
  unfold mLc
  rw [hit]
  simp only [bind_ok']
  obtain ⟨ρ', h1, h2, _⟩ := lcF_run (α := Unit) (own := own) (t := t) (tt := tt) (a := a) emb (fun _ => wipeE ρ own) (fun _ => p) (fun _ => g) (fun _ _ => ()) (fun _ => True) xs () [] (wipeE ρ own) trivial (wipeE_idem _ _) (by simpa using hl)
    fun s x _ hx => by
      obtain ⟨ρ1, g1, g2, g3, g4⟩ := h x hx
      exact ⟨trivial, ρ1, ρ1, g1, g3, fun _ => g2, fun hp => ⟨ρ1, g4 hp, g2⟩⟩
  rw [h1]
  simp only [bind_ok', List.nil_append]
  have e : ∀ ys : List β, (lcR (α := Unit) (fun _ => p) (fun _ => g) (fun _ _ => ()) ys ()).1 = (ys.filter p).map g := by
    intro ys
    induction ys with
    | nil => rfl
    | cons y ys ih =>
      unfold lcR
      by_cases hp : p y = true
      · rw [if_pos hp, List.filter_cons_of_pos hp, List.map_cons, ih]
      · rw [if_neg hp, List.filter_cons_of_neg hp, ih]
  rw [e, back_same h2]
/-- without a test -/
theorem mLc_m {β : Type} {emb : β → D} {it : RM} {own : List Nat} {t : Tg} {a : RE} {ρ ρ0 : Env} {xs : List β} (g : β → D) (hit : it ρ0 = .ok (xs.map emb) ρ) (hl : xs.length ≤ szL)
    (h : ∀ x ∈ xs, ∃ ρ1, t.sto (emb x) (wipeE ρ own) = some ρ1 ∧ wipeE ρ1 own = wipeE ρ own ∧ a ρ1 = .ok (g x) ρ1) :
    mLc it own t tTrue a ρ0 = .ok (xs.map g) ρ := by
  have := mLc_f (tt := tTrue) (own := own) (t := t) (a := a) (fun _ => true) g hit hl fun x hx => by
    obtain ⟨ρ1, h1, h2, h3⟩ := h x hx
    exact ⟨ρ1, h1, h2, rfl, fun _ => h3⟩
  rwa [List.filter_eq_self.mpr fun _ _ => rfl] at this
/-- with a state in the frame: E s the frame at s -/
theorem mLc_s {α β : Type} {it : RM} {own : List Nat} {t : Tg} {a : RE} {ρ0 : Env} {emb : β → D} {xs : List β} (E : α → Env) (g : α → β → D) (n : α → β → α) (I : α → Prop) {s : α} (hit : it ρ0 = .ok (xs.map emb) (E s)) (hI : I s) (hl : xs.length ≤ szL)
    (hb : ∀ s s', ∀ ρ', wipeE ρ' own = wipeE (E s') own → backE (E s) ρ' own = E s')
    (h : ∀ s x, I s → x ∈ xs → I (n s x) ∧ ∃ ρ1 ρ3, t.sto (emb x) (wipeE (E s) own) = some ρ1 ∧ a ρ1 = .ok (g s x) ρ3 ∧ wipeE ρ3 own = wipeE (E (n s x)) own) :
    mLc it own t tTrue a ρ0 = .ok (lcR (fun _ _ => true) g n xs s).1 (E (lcR (fun _ _ => true) g n xs s).2) ∧ I (lcR (fun _ _ => true) g n xs s).2 := by
  obtain ⟨ρ', h1, h2, h3⟩ := lcF_run (own := own) (t := t) (tt := tTrue) (a := a) emb (fun s => wipeE (E s) own) (fun _ _ => true) g n I xs s [] (wipeE (E s) own) hI (wipeE_idem _ _) (by simpa using hl) fun s x hs hx => by
    obtain ⟨g1, ρ1, ρ3, g2, g3, g4⟩ := h s x hs hx
    exact ⟨g1, ρ1, ρ1, g2, rfl, fun z => (by cases z), fun _ => ⟨ρ3, g3, g4⟩⟩
  refine ⟨?_, h3⟩
  unfold mLc
  rw [hit]
  simp only [bind_ok', h1, List.nil_append]
  rw [hb s _ ρ' h2]
/-- the frame behind a block -/
theorem back_of {ρ ρ' ρ2 : Env} {own : List Nat} (h : wipeE ρ' own = wipeE ρ2 own) (hl : ρ.length = ρ2.length) (hs : ∀ i ∈ own, ρ[i]? = ρ2[i]?) : backE ρ ρ' own = ρ2 := by
  have hl' : ρ'.length = ρ2.length := by
    have := congrArg List.length h
    rwa [wipeE_len, wipeE_len] at this
  refine List.ext_getElem? fun j => ?_
  rw [backE_get (by omega)]
  by_cases hj : j ∈ own
  · rw [if_pos hj, hs j hj]
  · rw [if_neg hj, ← wipeE_get (ρ := ρ') hj, h, wipeE_get hj]
/-- side by side -/
inductive F2 {α β : Type} (R : α → β → Prop) : List α → List β → Prop
  | nil : F2 R [] []
  | cons {a : α} {b : β} {as : List α} {bs : List β} : R a b → F2 R as bs → F2 R (a :: as) (b :: bs)
theorem F2.len {α β : Type} {R : α → β → Prop} : ∀ {as : List α} {bs : List β}, F2 R as bs → as.length = bs.length
  | _, _, .nil => rfl
  | _, _, .cons _ t => congrArg Nat.succ t.len
/-- a comprehension whose frame changes: some items, each as G says -/
theorem lcF_x {α β : Type} {own : List Nat} {t : Tg} {a : RE} (emb : β → D) (E : α → Env) (I : α → Prop) (G : β → D → Prop) :
    ∀ (xs : List β) (s : α) (acc : List D) (ρ : Env), I s → wipeE ρ own = wipeE (E s) own → acc.length + xs.length ≤ szL →
      (∀ s x, I s → x ∈ xs → ∃ s' d ρ1 ρ3, I s' ∧ G x d ∧ t.sto (emb x) (wipeE (E s) own) = some ρ1 ∧ a ρ1 = .ok d ρ3 ∧ wipeE ρ3 own = wipeE (E s') own) →
      ∃ s' ds ρ', I s' ∧ F2 G xs ds ∧ lcF own t tTrue a (xs.map emb) acc ρ = .ok (acc ++ ds) ρ' ∧ wipeE ρ' own = wipeE (E s') own
  | [], s, acc, ρ, hI, hE, hl, h => ⟨s, [], ρ, hI, .nil, by simp [lcF], hE⟩
  | x :: xs, s, acc, ρ, hI, hE, hl, h => by
    obtain ⟨s1, d, ρ1, ρ3, h1, h2, h3, h4, h5⟩ := h s x hI (List.mem_cons_self ..)
    have hl' : acc.length + (xs.length + 1) ≤ szL := hl
    obtain ⟨s2, ds, ρ', g1, g2, g3, g4⟩ := lcF_x emb E I G xs s1 (acc ++ [d]) ρ3 h1 h5 (by simp; omega) fun s x hs hx => h s x hs (List.mem_cons_of_mem _ hx)
    refine ⟨s2, d :: ds, ρ', g1, .cons h2 g2, ?_, g4⟩
    rw [List.map_cons]
    unfold lcF
    rw [hE, h3]
    simp only [tTrue_ap, noX_ok, bind_ok', if_true, h4]
    rw [if_pos (by omega), g3]
    simp
theorem mLc_x {α β : Type} {it : RM} {own : List Nat} {t : Tg} {a : RE} {ρ0 : Env} {emb : β → D} {xs : List β} (E : α → Env) (I : α → Prop) (G : β → D → Prop) {s : α} (hit : it ρ0 = .ok (xs.map emb) (E s)) (hI : I s) (hl : xs.length ≤ szL)
    (hb : ∀ s s', (E s).length = (E s').length ∧ ∀ i ∈ own, (E s)[i]? = (E s')[i]?)
    (h : ∀ s x, I s → x ∈ xs → ∃ s' d ρ1 ρ3, I s' ∧ G x d ∧ t.sto (emb x) (wipeE (E s) own) = some ρ1 ∧ a ρ1 = .ok d ρ3 ∧ wipeE ρ3 own = wipeE (E s') own) :
    ∃ s' ds, I s' ∧ F2 G xs ds ∧ mLc it own t tTrue a ρ0 = .ok ds (E s') := by
  obtain ⟨s', ds, ρ', h1, h2, h3, h4⟩ := lcF_x (own := own) (t := t) (a := a) emb E I G xs s [] (wipeE (E s) own) hI (wipeE_idem _ _) (by simpa using hl) h
  refine ⟨s', ds, h1, h2, ?_⟩
  unfold mLc
  rw [hit]
  simp only [bind_ok', h3, List.nil_append]
  rw [back_of h4 (hb s s').1 (hb s s').2]
/-! ### loops -/
/-- a for that comes to its end: P by the number of turns done -/
theorem for_inv {g : Tg} {body : RS} (P : Nat → Env → Prop) : ∀ (xs : List D) (k : Nat) (ρ : Env), P k ρ →
    (∀ i x ρ, xs[i]? = some x → P (k + i) ρ → ∃ ρ1 ρ2 f, g.sto x ρ = some ρ1 ∧ body ρ1 = .ok f ρ2 ∧ (f = .nx ∨ f = .ct) ∧ P (k + i + 1) ρ2) →
    ∃ ρ', forF g body xs ρ = .ok .nx ρ' ∧ P (k + xs.length) ρ'
  | [], k, ρ, h, _ => ⟨ρ, rfl, h⟩
  | x :: xs, k, ρ, h, hs => by
    obtain ⟨ρ1, ρ2, f, h1, h2, h3, h4⟩ := hs 0 x ρ rfl (by simpa using h)
    obtain ⟨ρ', e1, e2⟩ := for_inv P xs (k + 1) ρ2 (by simpa using h4) fun i y ρ hi hp => by
      obtain ⟨r1, r2, f, q1, q2, q3, q4⟩ := hs (i + 1) y ρ (by simpa using hi) (by rw [← Nat.add_assoc, Nat.add_right_comm]; exact hp)
      exact ⟨r1, r2, f, q1, q2, q3, by rw [← Nat.add_assoc, Nat.add_right_comm k i 1] at q4; exact q4⟩
    refine ⟨ρ', ?_, by rw [List.length_cons, ← Nat.add_assoc, Nat.add_right_comm]; exact e2⟩
    unfold forF
    rw [h1]
    simp only [h2, bind_ok']
    rcases h3 with rfl | rfl
    · exact e1
    · exact e1
/-- the first turn that returns -/
theorem for_ret {g : Tg} {body : RS} (P : Nat → Env → Prop) {d : D} : ∀ (xs : List D) (k m : Nat) (ρ : Env), P k ρ → m < xs.length →
    (∀ i x ρ, i < m → xs[i]? = some x → P (k + i) ρ → ∃ ρ1 ρ2 f, g.sto x ρ = some ρ1 ∧ body ρ1 = .ok f ρ2 ∧ (f = .nx ∨ f = .ct) ∧ P (k + i + 1) ρ2) →
    (∀ x ρ, xs[m]? = some x → P (k + m) ρ → ∃ ρ1 ρ2, g.sto x ρ = some ρ1 ∧ body ρ1 = .ok (.rt d) ρ2 ∧ P (k + m + 1) ρ2) →
    ∃ ρ', forF g body xs ρ = .ok (.rt d) ρ' ∧ P (k + m + 1) ρ'
  | [], k, m, ρ, h, hm, _, _ => absurd hm (by simp)
  | x :: xs, k, 0, ρ, h, hm, hs, hr => by
    obtain ⟨ρ1, ρ2, h1, h2, h3⟩ := hr x ρ rfl (by simpa using h)
    refine ⟨ρ2, ?_, by simpa using h3⟩
    unfold forF
    rw [h1]
    simp only [h2, bind_ok']
  | x :: xs, k, m + 1, ρ, h, hm, hs, hr => by
    obtain ⟨ρ1, ρ2, f, h1, h2, h3, h4⟩ := hs 0 x ρ (Nat.zero_lt_succ _) rfl (by simpa using h)
    obtain ⟨ρ', e1, e2⟩ := for_ret P (d := d) xs (k + 1) m ρ2 (by simpa using h4) (by simpa using hm) (fun i y ρ hi hx hp => by
      obtain ⟨r1, r2, f, q1, q2, q3, q4⟩ := hs (i + 1) y ρ (by omega) (by simpa using hx) (by rw [← Nat.add_assoc, Nat.add_right_comm]; exact hp)
      exact ⟨r1, r2, f, q1, q2, q3, by rw [← Nat.add_assoc, Nat.add_right_comm k i 1] at q4; exact q4⟩) (fun y ρ hx hp => by
      obtain ⟨r1, r2, q1, q2, q3⟩ := hr y ρ (by simpa using hx) (by rw [← Nat.add_assoc, Nat.add_right_comm]; exact hp)
      exact ⟨r1, r2, q1, q2, by rw [← Nat.add_assoc, Nat.add_right_comm k m 1] at q3; exact q3⟩)
    refine ⟨ρ', ?_, by rw [← Nat.add_assoc, Nat.add_right_comm k m 1]; exact e2⟩
    unfold forF
    rw [h1]
    simp only [h2, bind_ok']
    rcases h3 with rfl | rfl
    · exact e1
    · exact e1
/-! ### rows of ints -/
theorem szL_big : 100000 < szL := by show 100000 < 16777216; omega
@[simp] theorem szL1 : 1 ≤ szL := by have := szL_big; omega
@[simp] theorem szL2 : 2 ≤ szL := by have := szL_big; omega
@[simp] theorem szL3 : 3 ≤ szL := by have := szL_big; omega
@[simp] theorem szL4 : 4 ≤ szL := by have := szL_big; omega
@[simp] theorem szL5 : 5 ≤ szL := by have := szL_big; omega
@[simp] theorem szL6 : 6 ≤ szL := by have := szL_big; omega
@[simp] theorem szL8 : 8 ≤ szL := by have := szL_big; omega
@[simp] theorem szL9 : 9 ≤ szL := by have := szL_big; omega
@[simp] theorem szL7 : 7 ≤ szL := by have := szL_big; omega
def iL (xs : List Int) : List D := xs.map D.int
def tI (xs : List Int) : D := .tup (iL xs)
def lR (rs : List (List Int)) : D := .lst (rs.map tI)
def tR (rs : List (List Int)) : D := .tup (rs.map tI)
@[simp] theorem tup_iL {xs : List Int} : D.tup (iL xs) = tI xs := rfl
@[simp] theorem items_tI {xs : List Int} : items? (tI xs) = some (iL xs) := rfl
@[simp] theorem items_lR {xs : List (List Int)} : items? (lR xs) = some (xs.map tI) := rfl
@[simp] theorem items_tR {xs : List (List Int)} : items? (tR xs) = some (xs.map tI) := rfl
@[simp] theorem bTuple_iL {xs : List Int} : bTuple [.lst (iL xs)] = some (tI xs) := rfl
@[simp] theorem bTuple_tI {xs : List Int} : bTuple [tI xs] = some (tI xs) := rfl
@[simp] theorem bLen_tI {xs : List Int} : bLen [tI xs] = some (.int xs.length) := by simp [bLen, tI, iL]
@[simp] theorem bLen_lR {xs : List (List Int)} : bLen [lR xs] = some (.int xs.length) := by simp [bLen, lR]
@[simp] theorem bLen_tR {xs : List (List Int)} : bLen [tR xs] = some (.int xs.length) := by simp [bLen, tR]
@[simp] theorem iL_len {xs : List Int} : (iL xs).length = xs.length := by simp [iL]
theorem iL_get {xs : List Int} {i : Nat} : (iL xs)[i]? = (xs[i]?).map D.int := by unfold iL; rw [List.getElem?_map]
/-- the k-th item -/
def nI (xs : List Int) (k : Nat) : Int := xs.getD k 0
def nR (xs : List (List Int)) (k : Nat) : List Int := xs.getD k []
theorem nI_eq {xs : List Int} {k : Nat} (h : k < xs.length) : nI xs k = xs[k] := by
  unfold nI
  rw [List.getD_eq_getElem?_getD, List.getElem?_eq_getElem h]
  rfl
theorem nR_eq {xs : List (List Int)} {k : Nat} (h : k < xs.length) : nR xs k = xs[k] := by
  unfold nR
  rw [List.getD_eq_getElem?_getD, List.getElem?_eq_getElem h]
  rfl
theorem opIx_tI {xs : List Int} {k : Nat} (h : k < xs.length) : opIx (tI xs) (.int (k : Int)) = some (.int (nI xs k)) := by
  show atL (iL xs) k = _
  rw [atL_nat (by rw [iL_len]; exact h), iL_get, List.getElem?_eq_getElem h, nI_eq h]
  rfl
theorem appL_iL {xs : List Int} {a : Int} (h : xs.length < szL) : appL (iL xs) (.int a) = some (iL (xs ++ [a])) := by
  unfold appL
  rw [iL_len, if_pos h]
  simp [iL]
theorem appL_R {xs : List (List Int)} {a : List Int} (h : xs.length < szL) : appL (xs.map tI) (tI a) = some ((xs ++ [a]).map tI) := by
  unfold appL
  rw [List.length_map, if_pos h]
  simp
@[simp] theorem atL_0 {x : D} {l : List D} : atL (x :: l) 0 = some x := by unfold atL ixOf; simp
theorem atL_R {xs : List (List Int)} {k : Nat} (h : k < xs.length) : atL (xs.map tI) (k : Int) = some (tI (nR xs k)) := by
  rw [atL_nat (by simpa using h), List.getElem?_map, List.getElem?_eq_getElem h, nR_eq h]
  rfl
theorem opIx_lR {xs : List (List Int)} {k : Nat} (h : k < xs.length) : opIx (lR xs) (.int (k : Int)) = some (tI (nR xs k)) := atL_R h
theorem opIx_tR {xs : List (List Int)} {k : Nat} (h : k < xs.length) : opIx (tR xs) (.int (k : Int)) = some (tI (nR xs k)) := atL_R h
theorem range0 (n : Nat) : rangeL 0 n = (List.range n).map fun i => D.int ((i : Nat) : Int) := by
  unfold rangeL
  exact List.map_congr_left fun i _ => by rw [Int.zero_add]
theorem zip_tI {xs ys : List Int} : zipD (iL xs) (iL ys) = (xs.zip ys).map fun q => D.tup [.int q.1, .int q.2] := by
  unfold zipD iL
  rw [List.zip_map, List.map_map]
  rfl
theorem range_at {lo : Int} {n i : Nat} (h : i < n) : (rangeL lo n)[i]? = some (.int (lo + (i : Nat))) := by
  unfold rangeL
  simp [h]
theorem mem_range {lo : Int} {n : Nat} {x : D} (h : x ∈ rangeL lo n) : ∃ k : Nat, k < n ∧ x = .int (lo + (k : Nat)) := by
  unfold rangeL at h
  obtain ⟨k, h1, h2⟩ := List.mem_map.mp h
  exact ⟨k, List.mem_range.mp h1, h2.symm⟩
theorem small_of {a : Int} (h1 : -two64 < a) (h2 : a < two64) : smallF a = true := by
  rw [smallF_eq, decide_eq_true h1, decide_eq_true h2]
  rfl
theorem t64 : two64 = 18446744073709551616 := rfl
theorem t63 : two63 = 9223372036854775808 := rfl
theorem t62 : two62 = 4611686018427387904 := rfl
theorem sm_l {a b : Int} (h1 : -two64 < a) (h2 : a < two64) : (smallF a || smallF b) = true := by rw [small_of h1 h2]; rfl
theorem sm_r {a b : Int} (h1 : -two64 < b) (h2 : b < two64) : (smallF a || smallF b) = true := by rw [small_of h1 h2]; simp
theorem ok62_of {a : Int} (h1 : -1000000000 ≤ a) (h2 : a < 1000000000) : ok62 a = true := by rw [ok62_eq, t62, decide_eq_true (by omega), decide_eq_true (by omega)]; rfl
theorem ok63_of {a : Int} (h1 : -1000000000 ≤ a) (h2 : a < 1000000000) : ok63 a = true := by rw [ok63_eq, t63, decide_eq_true (by omega), decide_eq_true (by omega)]; rfl
theorem okDv_big {a : Int} (h1 : 0 < a) (h2 : a < 79228162514264337593543950336) : okDv a = true := by rw [okDv_eq, decide_eq_true h1, decide_eq_true h2]; rfl
theorem okDv_of {a : Int} (h1 : 0 < a) (h2 : a < 1073741824) : okDv a = true := okDv_big h1 (by omega)
theorem ok62_nat {n : Nat} (h : n < 1000000000) : ok62 (n : Int) = true := ok62_of (by omega) (by omega)
theorem ok63_nat {n : Nat} (h : n < 1000000000) : ok63 (n : Int) = true := ok63_of (by omega) (by omega)
/-- what a law of a script gives -/
def LawTrue (F : Fn) : Prop := ∀ ns : List Int, ns.length ≤ 63 → ∃ ρ, F [.v (.scr ns)] = .ok (.v (.bl true)) ρ
/-! ### defs whose parameters are all values -/
theorem keepO_false : ∀ (k : Nat) (ρ : Env), keepO (List.replicate k false) ρ = List.replicate k .no
  | 0, _ => rfl
  | k + 1, [] => by
    show Slot.no :: keepO (List.replicate k false) [] = _
    rw [keepO_false k]
    rfl
  | k + 1, s :: ρ => by
    show Slot.no :: keepO (List.replicate k false) ρ = _
    rw [keepO_false k]
    rfl
theorem fn_rt {k n : Nat} {own : List Bool} {body : RS} {as ρ0 : Env} {d : D} (ho : own = List.replicate k false) (h0 : as ++ List.replicate (n - as.length) .no = ρ0) (h : ∃ ρ', body ρ0 = .ok (.rt d) ρ') : fnF own n body as = .ok (.v d) (List.replicate k .no) := by
  obtain ⟨ρ', h⟩ := h
  unfold fnF
  rw [h0, h, ho]
  simp only [keepO_false]
theorem least {P : Nat → Prop} [DecidablePred P] {n : Nat} (h : P n) : ∃ m, m ≤ n ∧ P m ∧ ∀ k, k < m → ¬ P k := by
  induction n using Nat.strongRecOn with
  | _ n ih =>
    by_cases hx : ∃ k, k < n ∧ P k
    · obtain ⟨k, h1, h2⟩ := hx
      obtain ⟨m, g1, g2, g3⟩ := ih k h1 h2
      exact ⟨m, by omega, g2, g3⟩
    · exact ⟨n, Nat.le_refl _, h, fun k hk hp => hx ⟨k, hk, hp⟩⟩
/-! ### == of rows -/
theorem eqs_iL : ∀ {xs ys : List Int}, D.eqs (iL xs) (iL ys) = (xs == ys)
  | [], [] => rfl
  | [], _ :: _ => rfl
  | _ :: _, [] => rfl
  | x :: xs, y :: ys => by
    show ((x == y) && D.eqs (iL xs) (iL ys)) = _
    rw [eqs_iL]
    rfl
@[simp] theorem eq_tI {xs ys : List Int} : D.eq (tI xs) (tI ys) = (xs == ys) := eqs_iL
theorem eqs_R : ∀ {xs ys : List (List Int)}, D.eqs (xs.map tI) (ys.map tI) = (xs == ys)
  | [], [] => rfl
  | [], _ :: _ => rfl
  | _ :: _, [] => rfl
  | x :: xs, y :: ys => by
    show (D.eq (tI x) (tI y) && D.eqs (xs.map tI) (ys.map tI)) = _
    rw [eqs_R, eq_tI]
    rfl
@[simp] theorem eq_lR {xs ys : List (List Int)} : D.eq (lR xs) (lR ys) = (xs == ys) := eqs_R
@[simp] theorem eq_tR {xs ys : List (List Int)} : D.eq (tR xs) (tR ys) = (xs == ys) := eqs_R
theorem fins_iL : ∀ {xs : List Int}, D.fins (iL xs) = true
  | [] => rfl
  | x :: xs => by
    show (true && D.fins (iL xs)) = true
    rw [fins_iL]
    rfl
theorem deps_iL : ∀ {xs : List Int}, D.deps (iL xs) = 0
  | [] => rfl
  | x :: xs => by
    show max 0 (D.deps (iL xs)) = 0
    rw [deps_iL]
    rfl
theorem fin_tI {xs : List Int} : D.fin (tI xs) = true := fins_iL
theorem dep_tI {xs : List Int} : D.dep (tI xs) = 1 := by
  show D.deps (iL xs) + 1 = 1
  rw [deps_iL]
theorem fins_R : ∀ {xs : List (List Int)}, D.fins (xs.map tI) = true
  | [] => rfl
  | x :: xs => by
    show (D.fin (tI x) && D.fins (xs.map tI)) = true
    rw [fin_tI, fins_R]
    rfl
theorem deps_R : ∀ {xs : List (List Int)}, D.deps (xs.map tI) ≤ 1
  | [] => Nat.zero_le _
  | x :: xs => by
    show max (D.dep (tI x)) (D.deps (xs.map tI)) ≤ 1
    rw [dep_tI]
    have := deps_R (xs := xs)
    omega
@[simp] theorem shp_tI {xs : List Int} : D.shp (tI xs) = true := by unfold D.shp; rw [fin_tI, dep_tI]; rfl
@[simp] theorem shp_int {x : Int} : D.shp (.int x) = true := rfl
@[simp] theorem shp_lR {xs : List (List Int)} : D.shp (lR xs) = true := by
  unfold D.shp
  have h : D.dep (lR xs) ≤ 2 := by
    show D.deps (xs.map tI) + 1 ≤ 2
    have := deps_R (xs := xs)
    omega
  rw [show D.fin (lR xs) = true from fins_R, decide_eq_true (by omega)]
  rfl
@[simp] theorem shp_tR {xs : List (List Int)} : D.shp (tR xs) = true := by
  unfold D.shp
  have h : D.dep (tR xs) ≤ 2 := by
    show D.deps (xs.map tI) + 1 ≤ 2
    have := deps_R (xs := xs)
    omega
  rw [show D.fin (tR xs) = true from fins_R, decide_eq_true (by omega)]
  rfl
theorem any_R {v : List Int} : ∀ {xs : List (List Int)}, ((xs.map tI).any fun z => D.eq z (tI v)) = decide (v ∈ xs)
  | [] => rfl
  | x :: xs => by
    rw [List.map_cons, List.any_cons, any_R, eq_tI]
    by_cases h : x = v
    · subst h; simp
    · have : ¬ v = x := fun z => h z.symm
      simp [h, this]
theorem opNotIn_R {v : List Int} {xs : List (List Int)} : opNotIn (tI v) (lR xs) = some (.bl (!decide (v ∈ xs))) := by
  unfold opNotIn
  rw [items_lR]
  simp only [shp_tI, shp_lR, Bool.and_self, if_true, any_R]
theorem opIn_R {v : List Int} {xs : List (List Int)} : opIn (tI v) (lR xs) = some (.bl (decide (v ∈ xs))) := by
  unfold opIn
  rw [items_lR]
  simp only [shp_tI, shp_lR, Bool.and_self, if_true, any_R]
theorem opEq_R {xs ys : List (List Int)} : opEq (lR xs) (lR ys) = some (.bl (xs == ys)) := by unfold opEq; simp
theorem opEq_tI {xs ys : List Int} : opEq (tI xs) (tI ys) = some (.bl (xs == ys)) := by unfold opEq; simp
theorem opNe_tI {xs ys : List Int} : opNe (tI xs) (tI ys) = some (.bl (!(xs == ys))) := by unfold opNe; simp
theorem opNe_tR {xs ys : List (List Int)} : opNe (tR xs) (tR ys) = some (.bl (!(xs == ys))) := by unfold opNe; simp
theorem opEq_tR {xs ys : List (List Int)} : opEq (tR xs) (tR ys) = some (.bl (xs == ys)) := by unfold opEq; simp
theorem opEq_refl {d : D} (h : D.shp d = true) (h2 : D.eq d d = true) : opEq d d = some (.bl true) := by unfold opEq; simp [h, h2]
/-! ### sorted rows -/
def sortR (xs : List (List Int)) : List (List Int) := xs.mergeSort fun a b => !lexI b a
theorem sortR_perm (xs : List (List Int)) : (sortR xs).Perm xs := List.mergeSort_perm xs _
theorem sortR_pw (xs : List (List Int)) : (sortR xs).Pairwise fun a b => lexI b a = false := by
  have := List.pairwise_mergeSort (le := fun a b : List Int => !lexI b a) (fun a b c h1 h2 => by
    rw [Bool.not_eq_true'] at *
    exact lexI_negTr h1 h2) (fun a b => by
    cases h : lexI b a with
    | false => rfl
    | true => rw [lexI_asym h]; rfl) xs
  exact this.imp fun h => by simpa using h
theorem sortR_uniq {xs ys : List (List Int)} (h : xs.Perm ys) (hs : ys.Pairwise fun a b => lexI b a = false) : sortR xs = ys :=
  sort_uniq (le := fun a b => lexI b a = false) ((sortR_perm xs).trans h) (sortR_pw xs) hs fun a _ b _ h1 h2 => lexI_total h2 h1
theorem keyD_tI {xs : List Int} : keyD (tI xs) = xs := by
  have : ∀ xs : List Int, ints? (iL xs) = some xs := by
    intro xs
    induction xs with
    | nil => rfl
    | cons x xs ih =>
      show (ints? (iL xs)).map (fun r => x :: r) = _
      rw [ih]
      rfl
  show (ints? (iL xs)).getD [] = xs
  rw [this]
  rfl
theorem isIntTup_tI {xs : List Int} : isIntTup (tI xs) = true := by
  have h : keyD (tI xs) = xs := keyD_tI
  show (ints? (iL xs)).isSome = true
  have : ∀ xs : List Int, ints? (iL xs) = some xs := by
    intro xs
    induction xs with
    | nil => rfl
    | cons x xs ih =>
      show (ints? (iL xs)).map (fun r => x :: r) = _
      rw [ih]
      rfl
  rw [this]
  rfl
theorem sortT_R (xs : List (List Int)) : sortT (xs.map tI) = (sortR xs).map tI := by
  refine sort_uniq (le := fun a b => leD a b = true) ((sortT_perm _).trans ((sortR_perm xs).map tI).symm) (sortT_pw _) ?_ ?_
  · rw [List.pairwise_map]
    refine (sortR_pw xs).imp fun {a b} h => ?_
    unfold leD
    rw [keyD_tI, keyD_tI, h]
    rfl
  · intro a ha b hb h1 h2
    have ha := (sortT_perm _).mem_iff.mp ha
    have hb := (sortT_perm _).mem_iff.mp hb
    obtain ⟨u, _, rfl⟩ := List.mem_map.mp ha
    obtain ⟨v, _, rfl⟩ := List.mem_map.mp hb
    unfold leD at h1 h2
    rw [Bool.not_eq_true', keyD_tI, keyD_tI] at h1 h2
    rw [lexI_total h2 h1]
theorem bSorted_R {xs : List (List Int)} (h : xs.length < 2 ∨ ∀ x ∈ xs, x ≠ []) : bSorted [lR xs] = some (lR (sortR xs)) := by
  show (if sortableT (xs.map tI) then some (D.lst (sortT (xs.map tI))) else none) = _
  have e : sortableT (xs.map tI) = true := by
    unfold sortableT
    rw [Bool.and_eq_true]
    refine ⟨List.all_eq_true.mpr fun d hd => ?_, ?_⟩
    · obtain ⟨v, _, rfl⟩ := List.mem_map.mp hd
      exact isIntTup_tI
    · rw [Bool.or_eq_true]
      rcases h with h | h
      · left; simpa using h
      · right
        refine List.all_eq_true.mpr fun d hd => ?_
        obtain ⟨v, hv, rfl⟩ := List.mem_map.mp hd
        rw [keyD_tI]
        have := h v hv
        cases v with
        | nil => exact absurd rfl this
        | cons a b => rfl
  rw [if_pos e, sortT_R]
  rfl
end DL
/-! DLX: exceptions of own classes whose __init__ says super().__init__(..): made, raised, caught. -/
namespace DL
noncomputable section
open PySem PySem.Spec PyProof.Rows L2

/-! ### __init__ of an own exception class -/
/-- how the call's tree is read -/
def SupEv (e : Expr) (p0 p1 p2 p4 : Pos) : Prop := ∀ env : PySem.Env, ∃ pl : Sem Bool, eval (.Call (.Attribute (.Call (.Name "super" p0) [] [] p1) "__init__" p2) [e] [] p4) env = (do
  let ov ← attributeBase (.Call (.Name "super" p0) [] [] p1) "__init__" env (eval (.Call (.Name "super" p0) [] [] p1) env)
  standAt p2.atName
  let (f, first) ← holding [ov] (getMethod ov "__init__" pl)
  callWith p4 f first (backTo p4 (starEach [e] env)) [])
/-- what the module says of the class at C, its __init__ at f: super().__init__(e); self.fld = r -/
structure SupK (P : Program) (K : PySem.W.Frag) (mg : Str → Option Value) (C f : Addr) (fd : FuncData) (me r fld : Str) (e : Expr) : Prop where
  lk : ∃ oc od osl, K.lookup f = some ⟨oc, od, .func fd, osl⟩
  glob : fd.globals = mainGlobals
  blt : fd.builtins = builtinsNs
  clo : ∃ cc cl cld csl, fd.closure = [(("__class__" : Str), cc)] ∧ K.lookup cc = some ⟨cl, cld, .cell (some (.ref C)), csl⟩
  body : ∃ p0 p1 p2 p4 p5 p6 p7 p8 p9, fd.body = .stmts [.Expr (.Call (.Attribute (.Call (.Name "super" p0) [] [] p1) "__init__" p2) [e] [] p4) p5, .Assign [.Attribute (.Name me p6) fld p7] (.Name r p8) p9] ∧
    (∀ L, swapsWith (.Name r p8) (some (.Attribute (.Name me p6) fld p7)) p9.line (callEnv fd L f) = pure false) ∧ (∀ L, swapsWith (.Call (.Attribute (.Call (.Name "super" p0) [] [] p1) "__init__" p2) [e] [] p4) none p5.line (callEnv fd L f) = pure false) ∧ SupEv e p0 p1 p2 p4
  par : ∃ ar : Arg, (fd.params.posonlyargs ++ fd.params.args).head? = some ar ∧ ar.arg = me
  kind : fd.scope.kind = .function
  co : fd.scope.isCoroutine = false
  gen : fd.scope.isGenerator = false
  cells : ∀ x ∈ fd.scope.names, x.2 ≠ .cell
  selfK : fd.scope.names.lookup me = some .local
  rK : fd.scope.names.lookup r = some .local
  supK : fd.scope.names.lookup ("super" : Str) = some .globalImplicit
  clsK : fd.scope.names.lookup ("__class__" : Str) = some .free
  ne : me ≠ r
  dbgS : (me == ("__debug__" : Str)) = false
  dbgR : (r == ("__debug__" : Str)) = false
  code : ∃ cda ccl cdd vs ccs file tf, fd.code = .ref cda ∧ K.lookup cda = some ⟨ccl, cdd, .fields vs, ccs⟩ ∧ vs[2]? = some (.str file tf) ∧ ((P.main.file : Str) == file) = true
  rec_ : PySem.W.codeIn K fd.code fd.qualname = true
  oex : OexC K C
  sub : PySem.W.subIn K (.ref C) (.type "ValueError") = some true
  mro : PySem.W.mroIn K C (.ref C) = some true
  sup : PySem.W.ks_superIn K C C "__init__" = some (some (.builtin "ValueError.__init__"))
  opq : PySem.W.nsIn K PySem.cStatics "thirdparty.any" = some none
  noat : PySem.W.findIn K (.ref C) fld = some none
  msup : mg "super" = none
  top : (P.main.scope.names.lookup ("super" : Str)).isSome = false
/-- the promise of such an __init__ -/
def spSup (C : Addr) (fld : Str) : Sp := fun vs H Q _ => ∃ a x, vs = [.ref a, x] ∧ H a = some (exo a C none) ∧ ∀ dx, H dx = none → dx ≠ a → Q .non (upd (upd H dx (exd dx [(fld, x)])) a (exo a C (some dx)))
/-- an expression that changes nothing but the tokens -/
def Quiet (P : Program) (w : World) (env : PySem.Env) (r : Str) (e : Expr) : Prop := ∀ (A : Around) (Q : Value → Shared → Prop) (E : Value → Shared → Prop) (s : Shared) (m : Str → Option Value) (u : Value), s.heap.Ns env.locals m → m r = some u →
  (∀ v t, Q v { s with toks := t }) → wpAny (model P w) A (eval e env) Q E s
theorem super_boot : bootBuiltins "super" = some (.type "super") := by decide +kernel
theorem sup_fn {CX : CXT} {P : Program} {w : World} {K : PySem.W.Frag} {mg : Str → Option Value} {base : Heap} {k : Nat} {C f : Addr} {fd : FuncData} {me r fld : Str} {e : Expr} (S : SupK P K mg C f fd me r fld e)
    (hq : ∀ L, Quiet P w (callEnv fd L f) r e) (hst : ∀ env : PySem.Env, starEach [e] env = [(false, eval e env)]) : FnOk P w K mg base CX (k + 1) f fd [me, r] (spSup C fld) := by
  refine ⟨fun vs H Q E ⟨a, x, e, _⟩ => by rw [e]; rfl, fun A outer s H args us vs Q E hr e0 hb rv hsp => ?_⟩
  obtain ⟨a, x, rfl, ha, hQ⟩ := hsp
  obtain ⟨u, rfl, rx⟩ : ∃ u, us = [.ref a, u] ∧ RelV x u := by
    cases rv with
    | cons r1 r2 =>
      cases r2 with
      | cons r3 r4 =>
        cases r4
        cases r1
        exact ⟨_, rfl, r3⟩
  obtain ⟨nm, q, N, bs, bm, sn, sub, ab, col, dd, k0, k1, k2, k3, k5, hC, hbm⟩ := S.oex.cls
  obtain ⟨oc, od, osl, hf⟩ := S.lk
  obtain ⟨p0, p1, p2, p4, p5, p6, p7, p8, p9, hbody, hsw, hsw2, hev⟩ := S.body
  obtain ⟨cc, cl, cld, csl, hclo, hcell⟩ := S.clo
  obtain ⟨ar, hpar, har⟩ := S.par
  obtain ⟨cda, ccl, cdd, cvs, ccs, file, tf, hcode, hcd, hvs, hfile⟩ := S.code
  obtain ⟨t1, ho⟩ := exo_at e0.hok ha
  obtain ⟨mb, hmb, hbb⟩ := e0.mod.blt
  obtain ⟨h0, g, d, t, os⟩ := s
  have kb : ∀ b o, base.get? b = some o → h0.get? b = some o := fun b o z => (e0.bs b o z).1
  have X0 : K.In h0 := fun b o z => kb b o (e0.mod.kin b o z)
  have hself : ([(me, Value.ref a), (r, u)].reverse.lookup me) = some (.ref a) := by
    have : (me == r) = false := by simpa using S.ne
    simp [List.lookup, this]
  have hrl : ([(me, Value.ref a), (r, u)].reverse.lookup r) = some u := by
    simp [List.lookup]
  refine ks_codeAny_call_defAt (s := ⟨h0, g, d, t, os⟩) (binds := [(me, .ref a), (r, u)]) hr.depth (X0 _ _ hf) rfl (e0.mod.nolimit.keeps kb) (PySem.W.codeRec_of X0 S.rec_) hbody hb S.cells (fun y hy => ?_) (fun h1 hns hk1 => ?_) S.co S.gen S.kind
  · rcases List.mem_cons.mp hy with rfl | hy
    · exact S.selfK
    · rcases List.mem_cons.mp hy with rfl | hy
      · exact S.rK
      · cases hy
  have X1 : K.In h1 := fun b o z => hk1 _ _ (X0 _ _ z)
  have hint : interactive (callEnv fd h0.objs.size f) = false := by
    show (fd.scope.kind == .module && _) = false
    rw [S.kind]
    rfl
  obtain ⟨pl, hpl⟩ := hev (callEnv fd h0.objs.size f)
  refine ks_wpAt_execs_cons (ks_wpAt_Expr_any (ks_wpAt_MethodCall ?_ hpl) hint (hsw2 _))
  refine ks_wpAt_super_base (env := callEnv fd h0.objs.size f) S.supK S.clsK rfl rfl (X1 _ _ hf) rfl hpar hcode (X1 _ _ hcd) rfl hvs hfile S.top ?_
  refine PySem.W.ks_loadName_global S.kind S.supK (PySem.Calls.loadGlobal_builtin (mg := mg) (mb := mb) ?_ S.msup ?_ ((hbb _ (by decide)).trans super_boot) ⟨rfl, ?_⟩)
  · show h1.Ns fd.globals mg
    rw [S.glob]
    exact e0.mod.glob.keeps fun b o z => hk1 _ _ (kb _ _ z)
  · show h1.Ns fd.builtins mb
    rw [S.blt]
    exact hmb.keeps fun b o z => hk1 _ _ (kb _ _ z)
  have hcl : (callEnv fd h0.objs.size f).cells.lookup ("__class__" : Str) = some cc := by
    show fd.closure.lookup ("__class__" : Str) = some cc
    rw [hclo]
    rfl
  refine wpAny_loadName_free S.kind S.clsK hcl ⟨_, X1 _ _ hcell, rfl⟩ ?_
  refine wpAny_loadName_local (m := fun x => [(me, Value.ref a), (r, u)].reverse.lookup x) (v := .ref a) S.kind (by rw [har]; exact S.selfK) hns (by rw [har]; exact hself) ?_
  refine ks_wpAny_isType_cls (X1 _ _ hC) rfl ⟨rfl, ?_⟩
  have ho1 := hk1 _ _ ho
  refine ks_wpAny_call_super (X1 _ _ hC) rfl ho1 rfl (fun c z => by cases z) (PySem.W.looks_mroIn X1 S.mro) fun h2 hso hk2 => ?_
  have X2 : K.In h2 := fun b o z => hk2 _ _ (X1 _ _ z)
  have ho2 := hk2 _ _ ho1
  have hcd2 : PySem.W.clsIn K C = some { name := nm, bases := bs, mro := .ref C :: bm, ns := N, qualname := q, hasDict := true, slotNames := sn, subclasses := sub, abstract := ab, collection := col, hasDel := false } := by unfold PySem.W.clsIn; rw [hC] <;> rfl
  have I2 : PySem.W.InstAt h2 a { cls := .ref C, dict := none, data := .fields #[.ref t1, .none, .none, .none, .bool false, .none] } C none := ⟨ho2, rfl, rfl, trivial⟩
  have hI2 : PySem.W.Looks (model P w) h2 (isInstance (.ref a) (.type "ValueError")) true := I2.type.andThen (PySem.W.looks_subIn X2 S.sub)
  have hsup := S.sup
  unfold PySem.W.ks_superIn at hsup
  rw [hcd2] at hsup
  refine PySem.W.kxs_getMethod PySem.W.kxs_ValueError hso (PySem.W.looks_opaque X2 S.opq) (l₀ := .ref C :: bm) (fun A Q E s k q => wpAny_bind ((PySem.W.looks_clsIn X2 hcd2) A _ E s k (wpAny_pure q))) rfl X2 hsup hI2 (PySem.W.ks_ne X2 I2 hcd2) rfl ?_
  have hns2 : h2.Ns h0.objs.size (fun x => [(me, Value.ref a), (r, u)].reverse.lookup x) := hns.keeps hk2
  rw [hst]
  have hk3 : ∀ b o, h2.get? b = some o → (h2.push (PySem.W.kxs_mw "ValueError.__init__" a)).get? b = some o := fun b o z => Heap.get?_push_of_some _ z
  have hmw : (h2.push (PySem.W.kxs_mw "ValueError.__init__" a)).get? h2.objs.size = some (PySem.W.kxs_mw "ValueError.__init__" a) := Heap.get?_push_at rfl rfl
  generalize (h2.push (PySem.W.kxs_mw "ValueError.__init__" a)) = h3 at hk3 hmw ⊢
  refine PySem.W.kxs_callWith (i := "ValueError.__init__") (x := a) rfl ?_
  refine PySem.Calls.evalArgs_plain (PySem.Calls.spliced_cons ?_)
  refine hq h0.objs.size _ _ _ ⟨h3, g, d, _, os⟩ (fun x => [(me, Value.ref a), (r, u)].reverse.lookup x) u (hns2.keeps hk3) hrl fun v t5 => ?_
  refine PySem.Calls.spliced_nil ⟨hmw, ?_⟩
  have ho3 := hk3 _ _ ho2
  have hC3 := hk3 _ _ (X2 _ _ hC)
  refine wpAny_call (codeAny_of_tree ?_)
  show wpAny _ _ (callAny (.ref h2.objs.size) ⟨[v], []⟩) _ _ _
  simp only [callAny]
  refine wpAny_bind (wpAny_load hmw ?_)
  simp only [PySem.W.kxs_mw, show (Value.type "method-wrapper" == Value.type "method" || Value.type "method-wrapper" == Value.type "builtin_function_or_method" || Value.type "method-wrapper" == Value.type "method-wrapper") = true by decide, if_true]
  refine PySem.W.KFB.if_so (by decide) ?_
  refine wpAny_bind (PySem.W.check_bound_init PySem.F.excBase_ValueError.toExcCallFacts hC3 ho3 rfl ?_)
  refine wpAny_bind (wpAny_pure (wpAny_pure ?_))
  refine ⟨plainId_quiet PySem.F.excBase_ValueError.init.plain _, codeAny_builtin PySem.F.excBase_ValueError.initEntry ?_⟩
  refine PySem.W.exc_init_tree (cls := .ref C) (t0 := t1) (dv := none) (c2 := .none) (c3 := .none) (b4 := .bool false) ho3 (by show (1:Nat) ≤ _; rw [sizeLine_eq]; omega) fun h4 hk4 ho4 _ => ?_
  show PySem.wpAt _ _ _ (execs [_] _) _ _ _
  refine ks_wpAt_execs_cons (ks_wpAt_Assign_Attr ?_ (hsw _))
  have nh0 : ∀ {b : Addr} {o : Obj}, h0.get? b = some o → H b = none → b ≠ a := fun {b o} z n y => by
    rw [y, ha] at n
    cases n
  have k04 : ∀ b o, b ≠ a → h0.get? b = some o → h4.get? b = some o := fun b o z y => hk4 b o z (hk3 _ _ (hk2 _ _ (hk1 _ _ y)))
  have kb4 : ∀ b o, base.get? b = some o → h4.get? b = some o := fun b o z => k04 b o (nh0 (kb b o z) (e0.bs b o z).2) (kb b o z)
  have X4 : K.In h4 := fun b o z => kb4 b o (e0.mod.kin b o z)
  have haL : h0.objs.size ≠ a := fun z => by
    have := Heap.lt_size ho
    rw [← z] at this
    exact Nat.lt_irrefl _ this
  have hns4 : h4.Ns h0.objs.size (fun x => [(me, Value.ref a), (r, u)].reverse.lookup x) := by
    obtain ⟨oL, es, ep, hL, rr⟩ := hns2.keeps hk3
    exact ⟨oL, es, ep, hk4 _ _ haL hL, rr⟩
  refine wpAt_of_wpAny (wpAny_Name ?_ S.dbgR)
  refine wpAny_loadName_local (m := fun x => [(me, Value.ref a), (r, u)].reverse.lookup x) S.kind S.rK hns4 hrl ?_
  refine wpAny_Name ?_ S.dbgS
  refine wpAny_loadName_local (m := fun x => [(me, Value.ref a), (r, u)].reverse.lookup x) S.kind S.selfK hns4 hself ?_
  refine PySem.W.set_plain X4 (ox := { cls := .ref C, dict := none, data := .fields #[.ref h3.objs.size, .none, .none, .none, .bool false, .none] }) (od := none) ⟨ho4, rfl, rfl, trivial⟩ S.oex.sa ?_
  refine PySem.HandSPX.exc_osa X4 ho4 hcd2 (show PySem.HandSPX.refsVE (.ref C :: bm) = true from hbm) rfl S.noat (fun h5 tk5 dx k dn dne hx hn => ?_)
  have s04 : h0.objs.size < h4.objs.size := by
    obtain ⟨oL, es, ep, hL, rr⟩ := hns4
    exact Heap.lt_size hL
  have hnd : H dx = none := e0.hok.fresh (Nat.le_of_lt (Nat.lt_of_lt_of_le s04 dn))
  have nd : ∀ {b : Addr} {o : Obj}, h0.get? b = some o → b ≠ dx := fun {b o} q => Nat.ne_of_lt (Nat.lt_of_lt_of_le (Nat.lt_trans (Heap.lt_size q) s04) dn)
  have k05 : ∀ b o, b ≠ a → h0.get? b = some o → h5.get? b = some o := fun b o z y => k b o z (k04 b o z y)
  have Un1 : Un (frs outer) [] H (upd (upd H dx (exd dx [(fld, x)])) a (exo a C (some dx))) h0 h5 := {
    keep := fun b o q n _ _ => k05 b o (nh0 q n) q
    slot := fun b o q n _ _ => ⟨o.slots, k05 b o (nh0 q n) q⟩
    free := fun b o q n _ => by rw [upd_ne (nh0 q n), upd_ne (nd q)]; exact n
    there := fun b o q _ => by
      by_cases hb : b = a
      · exact ⟨_, by rw [hb]; exact hx⟩
      · exact ⟨o, k05 b o hb q⟩
    tups := fun b xs q => by rw [upd_ne (at_ne ha q exo_tup), upd_ne (ne_of_none q hnd)]; exact q
    frzs := fun b o v q => by rw [upd_ne (at_ne ha q exo_frz), upd_ne (ne_of_none q hnd)]; exact q
    tbls := fun b ps q => ⟨#[], by rw [upd_ne (at_ne ha q exo_tbl), upd_ne (ne_of_none q hnd), q]; simp⟩ }
  have hok5 : HOk P w (upd (upd H dx (exd dx [(fld, x)])) a (exo a C (some dx))) h5 := fun b o q => by
    by_cases hb : b = a
    · subst hb
      rw [upd_same] at q
      cases q
      exact exo_ok hx
    · rw [upd_ne hb] at q
      by_cases hd : b = dx
      · subst hd
        rw [upd_same] at q
        cases q
        exact exd_ok hn (relO_put (fs := []) rx fun g => True.intro)
      · rw [upd_ne hd] at q
        exact (e0.hok b o q).stay (fun c v hc z => k05 c v (by
            rcases hc with hc | hc
            · rw [hc]
              exact hb
            · exact at_ne ha hc exo_own) z)
          (fun c hc => by rw [upd_ne (at_ne ha hc exo_own), upd_ne (ne_of_none hc hnd)]; exact hc) (fun c xs hc => by rw [upd_ne (at_ne ha hc exo_tup), upd_ne (ne_of_none hc hnd)]; exact hc)
  show PySem.wpAt _ _ _ (execs [] _) _ _ _
  exact wpAt_of_wpAny (wpAny_pure ⟨.non, _, rfl, e0.bare, Un1, hok5, rfl, hQ dx hnd dne⟩)

/-! ### exception classes of the module -/
/-- an exception class by its name: the field that its own __init__ sets, if it has one -/
structure GEx where
  name : Str
  fld : Option Str := none
structure GExc (P : Program) (w : World) (K : PySem.W.Frag) (mg : Str → Option Value) (base : Heap) (g : GEx) : Prop where
  glo : mg g.name = some (.ref (He.ga K g.name))
  kp : PySem.W.keepIn K (.ref (He.ga K g.name)) = true
  isx : PySem.W.subIn K (.ref (He.ga K g.name)) (.type "BaseException") = some true
  ist : PySem.W.typeIn K (.ref (He.ga K g.name)) = some (.type "type")
  own : g.fld = none → PySem.W.excIn K (He.ga K g.name) He.veBase "ValueError.__new__" = true
  ini : ∀ fld, g.fld = some fld → ∃ (fI : Addr) (fd : FuncData) (me r : Str), OexC K (He.ga K g.name) ∧ PySem.W.findIn K (.ref (He.ga K g.name)) "__init__" = some (some (.ref fI)) ∧ PySem.W.typeIn K (.ref fI) = some (.type "function") ∧
    (∀ k, FnOk P w K mg base (L2.CX P w) (k + 1) fI fd [me, r] (spSup (He.ga K g.name) fld)) ∧ Binds K fd [me, r] [] ∧ XfC K (He.ga K g.name) ∧ PySem.W.findIn K (.ref (He.ga K g.name)) fld = some none

/-! ### raise -/
def sRaise0 (c : Str) : RS := fun ρ => .exc ⟨c, [], []⟩ ρ
def sRaise1 (c fld : Str) (as : RM) : RS := fun ρ => (as ρ).bind fun xs ρ => match xs with
  | [x] => .exc ⟨c, [fld], [x]⟩ ρ
  | _ => .bad
section
variable {X : Cx} {pl : List Nat} {W : WX} {g : GEx} {x : Str} {e : Expr} {p p2 pos pos' : Pos} {k : Nat}
theorem ds_raise0 {m : Str} {j : Nat} (hc : X.calm = true) (tk : Takes X W) (G : GExc X.prog X.w X.K X.mg X.base g) (hf : g.fld = none) (hg : Gl X g.name) (hdb : (g.name == ("__debug__" : Str)) = false) :
    DS X pl W (.Raise (some (.Call (.Name g.name p) [.Constant (.str m) j p2] [] pos)) none pos') (sRaise0 g.name) := by
  refine ⟨ps_imp (ps_raise hc tk (pmk_own (B := "ValueError") (bmB := He.veBase) PySem.F.excBase_ValueError (G.own hf) G.glo G.kp (raises_own G.isx G.ist) hg hdb)) fun D σ H ⟨ρ, hE, hP⟩ => ?_⟩
  exact hP _ _ σ H hE .refl ⟨rfl, fun z => absurd rfl z⟩
theorem ds_raise1 {fld : Str} {as : RM} (hc : X.calm = true) (tk : Takes X W) (G : GExc X.prog X.w X.K X.mg X.base g) (hf : g.fld = some fld) (hg : Gl X g.name) (hdb : (g.name == ("__debug__" : Str)) = false) (hr : Room (k + 2) X.A) (ha : DAs X pl W [e] as)
    (he : starEach [e] X.env = (false, eval e X.env) :: starEach [] X.env) : DS X pl W (.Raise (some (.Call (.Name g.name p) [e] [] pos)) none pos') (sRaise1 g.name fld as) := by
  obtain ⟨fI, fd, me, r, T, iC, tI, F1, hb, xf, hno⟩ := G.ini fld hf
  refine ⟨ps_imp (ps_raise hc tk (pmk_oex (CX := L2.CX X.prog X.w) T iC tI (F1 k) hr hb .nil (fun pins σ H s e s' _ c => by
    obtain ⟨_, _, _, _, _, _, _, _, _, _, _, _, z⟩ := c
    exact z.elim) hg G.glo ha.h hdb he rfl)) fun D σ H ⟨ρ, hE, hP⟩ => ?_⟩
  refine bindS hE hP fun xs ρ1 vs H1 E1 X1 r1 hP1 => ?_
  cases xs with
  | nil => exact hP1.elim
  | cons x xs =>
    cases xs with
    | cons y ys => exact hP1.elim
    | nil =>
      cases r1 with
      | cons rx rn =>
        rename_i v vs'
        cases rn
        refine ⟨by show (1 : Nat) ≤ 1000; omega, fun a ha => ⟨a, v, rfl, upd_same, fun dx hdx hne => ?_⟩⟩
        have h1 : H1 dx = none := by
          rw [upd_ne hne] at hdx
          exact hdx
        refine ⟨rfl, dx, [(fld, v)], upd_same, ?_, h1, ?_⟩
        · rw [upd_ne hne]
          exact upd_same
        · have eH : upd (del (upd (upd (upd H1 a (exo a (He.ga X.K g.name) none)) dx (exd dx [(fld, v)])) a (exo a (He.ga X.K g.name) (some dx))) a) dx (.xd [(fld, v)]) = upd H1 dx (.xd [(fld, v)]) := by
            funext b
            by_cases hb : b = dx
            · rw [hb, upd_same, upd_same]
            · rw [upd_ne hb, upd_ne hb]
              by_cases hba : b = a
              · rw [hba, del_same, ha]
              · rw [del_ne hba, upd_ne hba, upd_ne hb, upd_ne hba]
          rw [eH]
          have hk := upd_keep (o := .xd [(fld, v)]) h1
          have hx : Ext H1 (upd H1 dx (.xd [(fld, v)])) := (Step.heap (pl := pl) (ρ := ρ1) (σ := σ) hk).ext E1
          exact hP1 _ _ σ _ (E1.heap hk) (Step.heap hk) ⟨rfl, fun _ => ⟨dx, [(fld, v)], [v], rfl, upd_same, .cons (rx.ext hx) .nil, rfl, fun i k hk => by
            cases i with
            | zero =>
              cases hk
              simp [List.lookup]
            | succ i => simp at hk⟩⟩
end

/-! ### except suites: what they hand back, by the exception -/
inductive Sx where
  | c (d : D)
  | f (ns : List Str) (k : Str)
  | two (a b : Sx)
def Exn.get (x : Exn) (k : Str) : Option D := (x.ks.zip x.fs).lookup k
def suF : Sx → Exn → Option D
  | .c d, _ => some d
  | .f ns k, x => if ns.elem x.c = true then x.get k else none
  | .two a b, x => match suF a x, suF b x with
    | some d, some e => some (.tup [d, e])
    | _, _ => none
/-- how the caught exception stands -/
structure Ca (K : PySem.W.Frag) (i : Nat) (a : Addr) (cls : Value) (dd : Option Addr) (x : Exn) (σ : St) (H : Hp) : Prop where
  xr : XR K H x cls dd
  at_ : i < σ.length → σ[i]? = some (some (.ref a))
def tSx (K : PySem.W.Frag) (i : Nat) (a : Addr) (cls : Value) (dd : Option Addr) (f : Exn → Option D) : TE := fun σ H Q => ∃ x d, Ca K i a cls dd x σ H ∧ f x = some d ∧ ∀ v H', (∀ b o, H b = some o → H' b = some o) → VR K H' d v → Q v H'
def tSu (K : PySem.W.Frag) (i : Nat) (a : Addr) (cls : Value) (dd : Option Addr) (f : Exn → Option (Option D)) : TS := fun D σ H => ∃ x r, Ca K i a cls dd x σ H ∧ f x = some r ∧ (match r with
  | some d => ∀ v H', (∀ b o, H b = some o → H' b = some o) → VR K H' d v → D.rt v H'
  | none => ∀ H', (∀ b o, H b = some o → H' b = some o) → D.nx σ H')
theorem zip_lookup {k : Str} {d : D} : ∀ {ks : List Str} {fs : List D}, (ks.zip fs).lookup k = some d → ∃ i : Nat, ks[i]? = some k ∧ fs[i]? = some d
  | [], _, h => by simp at h
  | _ :: _, [], h => by simp at h
  | c :: ks, f :: fs, h => by
    rw [List.zip_cons_cons, List.lookup_cons] at h
    cases q : (k == c) with
    | true =>
      rw [q] at h
      exact ⟨0, by simpa using (beq_iff_eq.mp q).symm, by simpa using h⟩
    | false =>
      rw [q] at h
      obtain ⟨i, h1, h2⟩ := zip_lookup h
      exact ⟨i + 1, by simpa using h1, by simpa using h2⟩
section
variable {X : Cx} {i : Nat} {a : Addr} {oe : Obj} {cls : Value} {dd : Option Addr} {pn : List (Addr × Obj)} {e : Expr} {pos p : Pos} {z n : Str}
theorem sx_f {ns : List Str} (hT : ∀ c, ns.elem c = true → XfC X.K (He.ga X.K c) ∧ PySem.W.findIn X.K (.ref (He.ga X.K c)) n = some none) (hN : X.N[i]? = some z) (hv : PE (X.suite a ((a, oe) :: pn)) (.Name z p) (tVar i)) (hz : Zc cls dd oe) (hf : ∃ vs, oe.data = .fields vs) :
    PE (X.suite a ((a, oe) :: pn)) (.Attribute (.Name z p) n pos) (tSx X.K i a cls dd (suF (.f ns n))) := by
  refine ⟨fun pins s σ H Q I ⟨x, d, c, hs, q⟩ => ?_⟩
  have hi : i < σ.length := by
    rw [I.len]
    exact (List.getElem?_eq_some_iff.mp hN).1
  have hs' : (if ns.elem x.c = true then x.get n else none) = some d := hs
  by_cases hm : ns.elem x.c = true
  · rw [if_pos hm] at hs'
    obtain ⟨T, hno⟩ := hT _ hm
    obtain ⟨j, h1, h2⟩ := zip_lookup hs'
    obtain ⟨ec, hd⟩ := c.xr
    obtain ⟨b, gs, vs, e1, e2, r, _, hl⟩ := hd fun z => by rw [z] at h1; simp at h1
    obtain ⟨v, h3, h4⟩ := r.get h2
    refine (pe_xf (n := n) T hno hz hf hv rfl).run pins s σ H Q I ⟨_, c.at_ hi, rfl, ec, b, gs, v, e1, e2, (hl j n h1).trans h3, q v H (fun _ _ h => h) h4⟩
  · rw [if_neg hm] at hs'
    cases hs'
theorem su_ret {f : Exn → Option D} (h : PE X e (tSx X.K i a cls dd f)) : PSs X [.Return (some e) pos] (tSu X.K i a cls dd fun x => (f x).map some) := by
  refine pss_one (ps_imp (ps_ret h) fun D σ H ⟨x, r, c, hf0, q⟩ => ?_)
  have hf : (f x).map some = some r := hf0
  cases hx : f x with
  | none =>
    rw [hx] at hf
    cases hf
  | some d =>
    rw [hx] at hf
    cases hf
    exact ⟨x, d, c, hx, q⟩
end

/-! ### try -/
def sTryAs (f : RS) (i : Nat) (m : Exn → Option Bool) (su : Exn → Option (Option D)) : RS := fun ρ => match f ρ with
  | .ok r ρ' => .ok r ρ'
  | .exc x ρ' => (match m x with
    | some true => (match su x with
      | some (some d) => .ok (.rt d) ρ'
      | some none => .ok .nx (ρ'.set i .no)
      | none => .bad)
    | some false => .exc x ρ'
    | none => .bad)
  | .bad => .bad
section
variable {K : PySem.W.Frag} {pl : List Nat} {ρ : Env} {σ : St} {H : Hp}
theorem own_setN {i : Nat} {u : Option V} {a : Addr} (h : Own (ρ.set i .no) (σ.set i u) a) : Own ρ σ a := by
  obtain ⟨j, xs, h1, h2⟩ := h
  by_cases hj : i = j
  · subst hj
    by_cases hl : i < ρ.length
    · rw [List.getElem?_set_self hl] at h1; cases h1
    · rw [List.getElem?_eq_none (by simpa using hl)] at h1; cases h1
  · rw [List.getElem?_set_ne hj] at h1 h2
    exact ⟨j, xs, h1, h2⟩
theorem EnvR.setN {i : Nat} {u : Option V} (e : EnvR K ρ σ H) : EnvR K (ρ.set i .no) (σ.set i u) H := by
  have g : ∀ {j : Nat} {s : DL.Slot}, (ρ.set i .no)[j]? = some s → s ≠ .no → i ≠ j ∧ ρ[j]? = some s := fun {j s} h n => by
    by_cases hj : i = j
    · subst hj
      by_cases hl : i < ρ.length
      · rw [List.getElem?_set_self hl] at h
        exact absurd (Option.some.inj h).symm n
      · rw [List.getElem?_eq_none (by simpa using hl)] at h; cases h
    · rw [List.getElem?_set_ne hj] at h
      exact ⟨hj, h⟩
  refine ⟨by rw [List.length_set, List.length_set]; exact e.len, fun j d hj => ?_, fun j xs hj => ?_, fun j k xs ys a h1 h2 h3 h4 => ?_⟩
  · obtain ⟨h1, h2⟩ := g hj (by simp)
    obtain ⟨v, h3, h4⟩ := e.val j d h2
    exact ⟨v, by rw [List.getElem?_set_ne h1]; exact h3, h4⟩
  · obtain ⟨h1, h2⟩ := g hj (by simp)
    obtain ⟨b, vs, h3, h4⟩ := e.own j xs h2
    exact ⟨b, vs, by rw [List.getElem?_set_ne h1]; exact h3, h4⟩
  · obtain ⟨n1, g1⟩ := g h1 (by simp)
    obtain ⟨n2, g2⟩ := g h2 (by simp)
    rw [List.getElem?_set_ne n1] at h3
    rw [List.getElem?_set_ne n2] at h4
    exact e.dist j k xs ys a g1 g2 h3 h4
theorem Step.setN {i : Nat} {u : Option V} (hi : i ∉ pl) : Step pl ρ σ H (ρ.set i .no) (σ.set i u) H :=
  ⟨fun _ _ h _ => h, fun _ h => h, fun a h => .inl (own_setN h), set_prot hi⟩
end
section
variable {X : Cx} {pl : List Nat} {W : WX} {x n : Str} {c : Value} {i : Nat} {body suite : List Stmt} {b₀ : Stmt} {np pos pos' : Pos} {f : RS} {m : Exn → Option Bool} {su : Exn → Option (Option D)}
theorem ds_try_as (hs : X.stack = X.env :: X.outer) (hf : X.env.frame = some X.env.locals) (hN : X.N.Nodup) (hi : X.N[i]? = some n) (hln : X.env.kindOf n = some .local) (hpl : i ∉ pl) (hc : Names X x c) (tk : Takes X W)
    (hb : ∀ (W' : WX) (pn : List (Addr × Obj)) (xe : Value → Shared → Prop), Takes (X.tr pn xe) W' → PassesOwn (model X.prog X.w) X.A X.env xe → DSs (X.tr pn xe) pl W' body f)
    (hm : ∀ y b, m y = some b → PySem.W.exmOne X.K (.ref (He.ga X.K y.c)) c = some b)
    (hsu : ∀ (a : Addr) (oe : Obj) (cls : Value) (d : Option Addr) (pn : List (Addr × Obj)), Zc cls d oe → (∃ vs, oe.data = .fields vs) → PSs (X.suite a ((a, oe) :: pn)) (b₀ :: suite) (tSu X.K i a cls d su)) :
    DS X pl W (.Try body [.ExceptHandler (some (.Name x np)) (some n) (b₀ :: suite) pos'] [] [] pos) (sTryAs f i m su) := by
  refine ⟨ps_imp (ps_try_as (tb := fun W' => sOf X.K pl W' f) hs hf hN hi hln hc tk (fun W' pn xe t po => (hb W' pn xe t po).h) hsu) fun D σ H ⟨ρ, hE, hP⟩ => ⟨ρ, hE, ?_⟩⟩
  unfold sTryAs at hP
  cases h : f ρ with
  | bad =>
    rw [h] at hP
    exact hP
  | ok r ρ' =>
    rw [h] at hP
    cases r <;> exact hP
  | exc y ρ' =>
    rw [h] at hP
    intro cls dd σ' H' E' S' xr
    dsimp only at hP
    cases hmy : m y with
    | none =>
      rw [hmy] at hP
      exact hP.elim
    | some b =>
      rw [hmy] at hP
      obtain ⟨ec, hd⟩ := id xr
      refine ⟨b, by rw [ec]; exact hm y b hmy, fun hb2 a ha => ?_, fun hb2 => ?_⟩
      · subst hb2
        dsimp only at hP
        cases hsy : su y with
        | none =>
          rw [hsy] at hP
          exact hP.elim
        | some r =>
          rw [hsy] at hP
          refine ⟨y, r, ⟨xr, fun hl => ?_⟩, hsy, ?_⟩
          · rw [List.length_set] at hl
            exact List.getElem?_set_self hl
          · cases r with
            | some d => exact fun v H2 k r2 => hP v σ' H2 (E'.heap k) (S'.trans (.heap k)) r2
            | none => exact fun H2 k => hP _ _ (by rw [List.set_set]; exact (E'.heap k).setN) (by rw [List.set_set]; exact (S'.trans (.heap k)).trans (.setN hpl))
      · subst hb2
        exact hP cls dd σ' H' E' S' xr
end
end
end DL
/-! DLY: isinstance of the caught exception, in its suite. -/
namespace DL
noncomputable section
open PySem PySem.Spec PyProof.Rows L2
/-- a class by its name: of the module, a built-in one -/
inductive Cl where
  | own (c : Str)
  | ty (n : String)
  deriving DecidableEq
def Cl.name : Cl → Str
  | .own c => c
  | .ty n => PySem.Str.ofString n
def Cl.v (K : PySem.W.Frag) : Cl → V
  | .own c => .ref (He.ga K c)
  | .ty n => .ty n
def Cl.u (K : PySem.W.Frag) : Cl → Value
  | .own c => .ref (He.ga K c)
  | .ty n => .type n
theorem Cl.ok (K : PySem.W.Frag) (c : Cl) : ClsV (c.v K) (c.u K) := by
  cases c with
  | own c => exact .own _
  | ty n => exact .ty n
/-- tests in such a suite -/
inductive Tx where
  | is1 (c : Cl) (tb : List (Str × Bool))
  | is2 (c d : Cl) (tb : List (Str × Bool))
  | not (t : Tx)
  | and (t u : Tx)
  | one (t : Tx)
def txF : Tx → Exn → Option Bool
  | .is1 _ tb, x => if x.ks = [] then none else tb.lookup x.c
  | .is2 _ _ tb, x => if x.ks = [] then none else tb.lookup x.c
  | .not t, x => (txF t x).map (!·)
  | .one t, x => txF t x
  | .and t u, x => match txF t x with
    | some true => txF u x
    | r => r
/-- what the class at D must say -/
structure IsC (K : PySem.W.Frag) (D : Addr) : Prop where
  cl : (PySem.W.clsIn K D).isSome = true
  ga : PySem.W.findIn K (.ref D) "__getattribute__" = some (some (.builtin "BaseException.__getattribute__"))
  gt : PySem.W.findIn K (.ref D) "__getattr__" = some none
  su : PySem.W.subIn K (.ref D) (.type "BaseException") = some true
  ha : PySem.W.findIn K (.ref D) "__class__" = some (some (.builtin "object.__class__"))
  hn : PySem.W.specialIn K (.builtin "object.__class__") "__get__" = some (some (.builtin "getset_descriptor.__get__"))
  ht : PySem.W.takesIn K (.builtin "object.__class__") = some true
  hm : PySem.W.mroIn K D (.type "object") = some true
def isCB (K : PySem.W.Frag) (D : Addr) : Bool := (PySem.W.clsIn K D).isSome && (decide (PySem.W.findIn K (.ref D) "__getattribute__" = some (some (.builtin "BaseException.__getattribute__"))) && (decide (PySem.W.findIn K (.ref D) "__getattr__" = some none) && (decide (PySem.W.subIn K (.ref D) (.type "BaseException") = some true) &&
  (decide (PySem.W.findIn K (.ref D) "__class__" = some (some (.builtin "object.__class__"))) && (decide (PySem.W.specialIn K (.builtin "object.__class__") "__get__" = some (some (.builtin "getset_descriptor.__get__"))) && (decide (PySem.W.takesIn K (.builtin "object.__class__") = some true) && decide (PySem.W.mroIn K D (.type "object") = some true)))))))
theorem isCB_ok {K : PySem.W.Frag} {D : Addr} (h : isCB K D = true) : IsC K D := by
  obtain ⟨h1, h⟩ := Bool.and_eq_true_iff.mp h
  obtain ⟨h2, h⟩ := Bool.and_eq_true_iff.mp h
  obtain ⟨h3, h⟩ := Bool.and_eq_true_iff.mp h
  obtain ⟨h4, h⟩ := Bool.and_eq_true_iff.mp h
  obtain ⟨h5, h⟩ := Bool.and_eq_true_iff.mp h
  obtain ⟨h6, h⟩ := Bool.and_eq_true_iff.mp h
  obtain ⟨h7, h8⟩ := Bool.and_eq_true_iff.mp h
  exact ⟨h1, of_decide_eq_true h2, of_decide_eq_true h3, of_decide_eq_true h4, of_decide_eq_true h5, of_decide_eq_true h6, of_decide_eq_true h7, of_decide_eq_true h8⟩
/-- a fact about isinstance: the exception's class, the classes asked for, the answer -/
abbrev IsF : Type := (Str × List Cl) × Bool
def IsF.ok (K : PySem.W.Frag) (q : IsF) : Prop := IsC K (He.ga K q.1.1) ∧ PySem.W.kitAny K (.ref (He.ga K q.1.1)) (q.1.2.map (Cl.u K)) = some q.2
def isFB (q : IsF) (K : PySem.W.Frag) : Bool := isCB K (He.ga K q.1.1) && decide (PySem.W.kitAny K (.ref (He.ga K q.1.1)) (q.1.2.map (Cl.u K)) = some q.2)
theorem isFB_ok {q : IsF} {K : PySem.W.Frag} (h : isFB q K = true) : q.ok K := by
  obtain ⟨h1, h2⟩ := Bool.and_eq_true_iff.mp h
  exact ⟨isCB_ok h1, of_decide_eq_true h2⟩
theorem kitOne_of {K : PySem.W.Frag} {t c : Value} {b : Bool} (h : PySem.W.kitAny K t [c] = some b) : PySem.W.kitOne K t c = some b := by
  unfold PySem.W.kitAny at h
  cases e : PySem.W.kitOne K t c with
  | none =>
    rw [e] at h
    cases h
  | some r =>
    rw [e] at h
    cases r with
    | true => exact h
    | false => exact h
section
variable {X : Cx} {i : Nat} {a : Addr} {oe : Obj} {cls : Value} {dd : Option Addr} {pn : List (Addr × Obj)} {pos p p2 p3 p4 p5 : Pos} {z : Str} {e : Expr}
theorem Ca.grow {K : PySem.W.Frag} {x : Exn} {σ : St} {H H' : Hp} (c : Ca K i a cls dd x σ H) (k : ∀ b o, H b = some o → H' b = some o) : Ca K i a cls dd x σ H' := by
  obtain ⟨⟨h1, h2⟩, h3⟩ := c
  refine ⟨⟨h1, fun n => ?_⟩, h3⟩
  obtain ⟨b, gs, vs, e1, e2, r, l, q⟩ := h2 n
  have x : Ext H H' := ⟨fun a xs h => k _ _ h, fun a o u h => k _ _ h, fun a C dx fs h => k _ _ h⟩
  exact ⟨b, gs, vs, e1, k _ _ e2, r.ext x, l, q⟩
/-- the exception's object as the library's isinstance rules ask -/
theorem ca_kit {pins : List (Addr × Obj)} {σ : St} {H : Hp} {s : Shared} {x : Exn} (I : Inv (X.suite a ((a, oe) :: pn)) pins σ H s) (hz : Zc cls dd oe) (hf : ∃ vs, oe.data = .fields vs) (c : XR X.K H x cls dd) (hk : x.ks ≠ []) (hC : IsC X.K (He.ga X.K x.c)) :
    ∃ P : Heap → Prop, PySem.W.KitX X.K (.ref a) (.ref (He.ga X.K x.c)) P ∧ P s.heap := by
  obtain ⟨ec, hd⟩ := c
  obtain ⟨b, gs, vs, e1, e2, _⟩ := hd hk
  subst ec e1
  obtain ⟨ha, _⟩ := I.pin (a, oe) (List.mem_append_left _ List.mem_cons_self)
  obtain ⟨ws, hw⟩ := hf
  have hx : ObjOk X.prog X.w H s.heap b (.xd gs) := I.hok b _ e2
  obtain ⟨mA, hns, hr⟩ := hx
  obtain ⟨od, ho, hl⟩ := lookIn_ns hns
  have J : PySem.W.InstAt s.heap a oe (He.ga X.K x.c) (some od) := ⟨ha, hz.1, by unfold PySem.W.notCls; rw [hw] <;> rfl, by rw [hz.2]; exact ho⟩
  exact ⟨_, PySem.W.kitx_exc hC.cl hC.ga hC.gt hC.su hC.ha hC.hn hC.ht hC.hm, J⟩
def rIx (K : PySem.W.Frag) (a : Addr) (cls : Value) (dd : Option Addr) (c : Cl) : List V → Hp → VK → Prop := fun xs H Q => ∃ x b, xs = [.ref a, c.v K] ∧ XR K H x cls dd ∧ x.ks ≠ [] ∧ IsF.ok K ((x.c, [c]), b) ∧ Q (.bl b) H
def rIx2 (K : PySem.W.Frag) (a : Addr) (cls : Value) (dd : Option Addr) (c d : Cl) : List V → Hp → VK → Prop := fun xs H Q => ∃ x b tp, xs = [.ref a, .ref tp] ∧ H tp = some (.tup [c.v K, d.v K]) ∧ XR K H x cls dd ∧ x.ks ≠ [] ∧ IsF.ok K ((x.c, [c, d]), b) ∧ Q (.bl b) H
def tTx (K : PySem.W.Frag) (i : Nat) (a : Addr) (cls : Value) (dd : Option Addr) (g : Exn → Option Bool) : TT := fun σ H Q => ∃ x b, Ca K i a cls dd x σ H ∧ g x = some b ∧ ∀ H', (∀ b o, H b = some o → H' b = some o) → Q b H'
theorem tb_ok {K : PySem.W.Frag} {cs : List Cl} {tb : List (Str × Bool)} (h : ∀ q ∈ tb, IsF.ok K ((q.1, cs), q.2)) {c : Str} {b : Bool} : tb.lookup c = some b → IsF.ok K ((c, cs), b) := by
  intro e
  induction tb with
  | nil => simp at e
  | cons q tb ih =>
    obtain ⟨y, r⟩ := q
    rw [List.lookup_cons] at e
    cases hq : (c == y) with
    | true =>
      rw [hq] at e
      have := h (y, r) (List.mem_cons_self ..)
      rw [beq_iff_eq.mp hq, ← Option.some.inj e]
      exact this
    | false =>
      rw [hq] at e
      exact ih (fun q m => h q (List.mem_cons_of_mem _ m)) e
/-- the class names in the suite's context -/
def ClN (X : Cx) (c : Cl) : Prop := ∀ p : Pos, ∀ (a : Addr) (pn : List (Addr × Obj)), PE (X.suite a pn) (.Name c.name p) (tC (c.v X.K))
theorem clN_own {c : Str} (hg : Gl X c) (hm : X.mg c = some (.ref (He.ga X.K c))) (hd : (c == ("__debug__" : Str)) = false) : ClN X (.own c) := fun p a pn => pe_glob (X := X.suite a pn) hg hm rfl hd
theorem clN_ty {n : String} (hg : Gl X (PySem.Str.ofString n)) (hm : X.mg (PySem.Str.ofString n) = none) (hv : bootBuiltins (PySem.Str.ofString n) = some (.type n)) (hn : PySem.Str.ofString n ≠ "__name__") (hd : (PySem.Str.ofString n == ("__debug__" : Str)) = false) : ClN X (.ty n) :=
  fun p a pn => pe_bltn (X := X.suite a pn) hg hm hv rfl hn hd
theorem call_ix {c : Cl} (hz : Zc cls dd oe) (hf : ∃ vs, oe.data = .fields vs) : CallR (X.suite a ((a, oe) :: pn)) (.builtin "isinstance") (rIx X.K a cls dd c) := by
  intro pins s σ2 H xs us Q I r h
  obtain ⟨x, b, rfl, c2, k2, ⟨g1, g2⟩, q⟩ := h
  cases r with
  | cons r1 r2 =>
    cases r2 with
    | cons r3 r4 =>
      cases r4
      cases r1
      have e3 := (c.ok X.K).eq r3
      subst e3
      obtain ⟨P, Z, hp⟩ := ca_kit I hz hf c2 k2 g1
      exact PySem.W.kia_one Z I.kIn hp (kitOne_of g2) (fun z => nomatch z) fun tk => ⟨.bl b, H, I.tok tk, rfl, q⟩
theorem call_ix2 {c d : Cl} (hz : Zc cls dd oe) (hf : ∃ vs, oe.data = .fields vs) : CallR (X.suite a ((a, oe) :: pn)) (.builtin "isinstance") (rIx2 X.K a cls dd c d) := by
  intro pins s σ2 H xs us Q I r h
  obtain ⟨x, b, tp, rfl, hT, c2, k2, ⟨g1, g2⟩, q⟩ := h
  cases r with
  | cons r1 r2 =>
    cases r2 with
    | cons r3 r4 =>
      cases r4
      cases r1
      cases r3
      obtain ⟨P, Z, p⟩ := ca_kit I hz hf c2 k2 g1
      obtain ⟨_, its, rv, o, h1, h2, n, h3⟩ := (show ObjOk X.prog X.w H s.heap tp (.tup [c.v X.K, d.v X.K]) from I.hok tp _ hT)
      have e3 := ClsV.all (.cons (c.ok X.K) (.cons (d.ok X.K) .nil)) rv
      subst e3
      obtain ⟨oc, od, dt, sl⟩ := o
      simp only at h2 h3
      subst h2 h3
      exact PySem.W.kia_tup Z I.kIn p h1 g2 (fun z => nomatch z) fun tk => ⟨.bl b, H, I.tok tk, rfl, q⟩
theorem tx_is1 {c : Cl} {tb : List (Str × Bool)} (hgI : Gl X "isinstance") (hmI : X.mg "isinstance" = none) (hcl : ClN X c) (htb : ∀ q ∈ tb, IsF.ok X.K ((q.1, [c]), q.2)) (hN : X.N[i]? = some z) (hv : PE (X.suite a ((a, oe) :: pn)) (.Name z p) (tVar i)) (hz : Zc cls dd oe) (hf : ∃ vs, oe.data = .fields vs) :
    PT (X.suite a ((a, oe) :: pn)) (.Call (.Name "isinstance" p2) [.Name z p, .Name c.name p3] [] pos) (tTx X.K i a cls dd (txF (.is1 c tb))) := by
  have ha : PA (X.suite a ((a, oe) :: pn)) [.Name z p, .Name c.name p3] (tCons (tVar i) (tCons (tC (c.v X.K)) tNil)) := pa_cons hv (pa_cons (hcl p3 a _) pa_nil)
  have h1 := pt_val (pe_callB (X := X.suite a ((a, oe) :: pn)) (p := p2) (pos := pos) (call_ix (c := c) hz hf) hgI hmI (by decide +kernel) ha) (fun _ => rfl)
  refine ⟨fun pins s σ H Q I ⟨x, b, c1, hg, q⟩ => h1.run pins s σ H Q I ?_⟩
  have hi : i < σ.length := by
    rw [I.len]
    exact (List.getElem?_eq_some_iff.mp hN).1
  have hg' : (if x.ks = [] then none else tb.lookup x.c) = some b := hg
  by_cases hk : x.ks = []
  · rw [if_pos hk] at hg'
    cases hg'
  rw [if_neg hk] at hg'
  exact ⟨_, c1.at_ hi, x, b, rfl, c1.xr, hk, tb_ok htb hg', b, rfl, q H fun _ _ h => h⟩
theorem tx_is2 {c d : Cl} {tb : List (Str × Bool)} {kk : Nat} (hgI : Gl X "isinstance") (hmI : X.mg "isinstance" = none) (hcl : ClN X c) (hdl : ClN X d) (htb : ∀ q ∈ tb, IsF.ok X.K ((q.1, [c, d]), q.2)) (hN : X.N[i]? = some z) (hv : PE (X.suite a ((a, oe) :: pn)) (.Name z p) (tVar i)) (hz : Zc cls dd oe) (hf : ∃ vs, oe.data = .fields vs) :
    PT (X.suite a ((a, oe) :: pn)) (.Call (.Name "isinstance" p2) [.Name z p, .Tuple [.Name c.name p3, .Name d.name p4] kk p5] [] pos) (tTx X.K i a cls dd (txF (.is2 c d tb))) := by
  have ha : PA (X.suite a ((a, oe) :: pn)) [.Name z p, .Tuple [.Name c.name p3, .Name d.name p4] kk p5] (tCons (tVar i) (tCons (tTup (tCons (tC (c.v X.K)) (tCons (tC (d.v X.K)) tNil))) tNil)) :=
    pa_cons hv (pa_cons (pe_tup (pa_cons (hcl p3 a _) (pa_cons (hdl p4 a _) pa_nil))) pa_nil)
  have h1 := pt_val (pe_callB (X := X.suite a ((a, oe) :: pn)) (p := p2) (pos := pos) (call_ix2 (c := c) (d := d) hz hf) hgI hmI (by decide +kernel) ha) (fun _ => rfl)
  refine ⟨fun pins s σ H Q I ⟨x, b, c1, hg, q⟩ => h1.run pins s σ H Q I ?_⟩
  have hi : i < σ.length := by
    rw [I.len]
    exact (List.getElem?_eq_some_iff.mp hN).1
  have hg' : (if x.ks = [] then none else tb.lookup x.c) = some b := hg
  by_cases hk : x.ks = []
  · rw [if_pos hk] at hg'
    cases hg'
  rw [if_neg hk] at hg'
  refine ⟨_, c1.at_ hi, by show (2 : Nat) ≤ _; rw [sizeLine_eq]; omega, fun tp htp => ?_⟩
  have k := upd_keep (o := .tup [c.v X.K, d.v X.K]) htp
  exact ⟨x, b, tp, rfl, upd_same, (c1.grow k).xr, hk, tb_ok htb hg', b, rfl, q _ k⟩
theorem tx_not {t : Tx} (h : PT (X.suite a ((a, oe) :: pn)) e (tTx X.K i a cls dd (txF t))) : PT (X.suite a ((a, oe) :: pn)) (.UnaryOp .Not e pos) (tTx X.K i a cls dd (txF (.not t))) := by
  refine ⟨fun pins s σ H Q I ⟨x, b, c1, hg, q⟩ => (pt_not h).run pins s σ H Q I ?_⟩
  have hg' : (txF t x).map (!·) = some b := hg
  obtain ⟨b', h1, rfl⟩ := Option.map_eq_some_iff.mp hg'
  exact ⟨x, b', c1, h1, q⟩
theorem txw_one {t : Tx} (h : PT (X.suite a ((a, oe) :: pn)) e (tTx X.K i a cls dd (txF t))) : PW (X.suite a ((a, oe) :: pn)) (.BoolOp .And [e] pos) (tTx X.K i a cls dd (txF (.one t))) := pw_and1 h
theorem txw_and {t u : Tx} {e2 : Expr} {r : List Expr} (h : PT (X.suite a ((a, oe) :: pn)) e (tTx X.K i a cls dd (txF t))) (h2 : PW (X.suite a ((a, oe) :: pn)) (.BoolOp .And (e2 :: r) pos) (tTx X.K i a cls dd (txF u))) :
    PW (X.suite a ((a, oe) :: pn)) (.BoolOp .And (e :: e2 :: r) pos) (tTx X.K i a cls dd (txF (.and t u))) := by
  refine pw_imp (pw_and h h2) fun σ H Q ⟨x, b, c1, hg, q⟩ => ?_
  have hg' : (match txF t x with
    | some true => txF u x
    | r => r) = some b := hg
  cases ht : txF t x with
  | none =>
    rw [ht] at hg'
    cases hg'
  | some k =>
    rw [ht] at hg'
    refine ⟨x, k, c1, ht, fun H1 k1 => ?_⟩
    cases k with
    | true => exact ⟨x, b, c1.grow k1, hg', fun H2 k2 => q H2 fun b o h => k2 b o (k1 b o h)⟩
    | false =>
      cases hg'
      exact q H1 k1
theorem sx_two {p1 q1 : Sx} {e1 e2 : Expr} {kk : Nat} (h1 : PE (X.suite a ((a, oe) :: pn)) e1 (tSx X.K i a cls dd (suF p1))) (h2 : PE (X.suite a ((a, oe) :: pn)) e2 (tSx X.K i a cls dd (suF q1))) (hs1 : starEach [e1, e2] X.env = (false, eval e1 X.env) :: starEach [e2] X.env) (hs2 : starEach [e2] X.env = (false, eval e2 X.env) :: starEach [] X.env) :
    PE (X.suite a ((a, oe) :: pn)) (.Tuple [e1, e2] kk pos) (tSx X.K i a cls dd (suF (.two p1 q1))) := by
  refine pe_imp (pe_tup (pa_cons (X := X.suite a ((a, oe) :: pn)) h1 (pa_cons (X := X.suite a ((a, oe) :: pn)) h2 pa_nil hs2) hs1)) fun σ H Q ⟨x, d, c1, hs, q⟩ => ?_
  have hs' : (match suF p1 x, suF q1 x with
    | some d, some e => some (.tup [d, e])
    | _, _ => none) = some d := hs
  cases g1 : suF p1 x with
  | none =>
    rw [g1] at hs'
    cases hs'
  | some d1 =>
    cases g2 : suF q1 x with
    | none =>
      rw [g1, g2] at hs'
      cases hs'
    | some d2 =>
      rw [g1, g2] at hs'
      cases hs'
      refine ⟨x, d1, c1, g1, fun v1 H1 k1 r1 => ⟨x, d2, c1.grow k1, g2, fun v2 H2 k2 r2 => ⟨by show (2 : Nat) ≤ _; rw [sizeLine_eq]; omega, fun tp htp => ?_⟩⟩⟩
      have k3 := upd_keep (o := .tup [v1, v2]) htp
      have k23 : ∀ b o, H1 b = some o → upd H2 tp (.tup [v1, v2]) b = some o := fun b o h => k3 b o (k2 b o h)
      have xg : ∀ {Ha Hb : Hp}, (∀ b o, Ha b = some o → Hb b = some o) → Ext Ha Hb := fun k => ⟨fun a xs h => k _ _ h, fun a o u h => k _ _ h, fun a C dx fs h => k _ _ h⟩
      exact q _ _ (fun b o h => k23 b o (k1 b o h)) (.tup (.inl (.inl upd_same)) (.cons (r1.ext (xg k23)) (.cons (r2.ext (xg k3)) .nil)))
/-- if test: return e -/
theorem su_if {t : Tx} {f : Exn → Option D} {e2 : Expr} (h : PT (X.suite a ((a, oe) :: pn)) e (tTx X.K i a cls dd (txF t))) (h2 : PE (X.suite a ((a, oe) :: pn)) e2 (tSx X.K i a cls dd f)) :
    PSs (X.suite a ((a, oe) :: pn)) [.If e [.Return (some e2) p] [] pos] (tSu X.K i a cls dd fun x => match txF t x with
      | some true => (f x).map some
      | some false => some none
      | none => none) := by
  refine pss_one (ps_imp (ps_if h (su_ret h2) pss_nil) fun D σ H ⟨x, r, c1, hg0, q⟩ => ?_)
  have hg : (match txF t x with
    | some true => (f x).map some
    | some false => some none
    | none => none) = some r := hg0
  cases ht : txF t x with
  | none =>
    rw [ht] at hg
    cases hg
  | some k =>
    rw [ht] at hg
    refine ⟨x, k, c1, ht, fun H1 k1 => ?_⟩
    cases k with
    | true =>
      refine ⟨x, r, c1.grow k1, hg, ?_⟩
      cases r with
      | some d => exact fun v H2 k2 r2 => q v H2 (fun b o h => k2 b o (k1 b o h)) r2
      | none =>
        have hg' : (f x).map some = some none := hg
        obtain ⟨_, _, z⟩ := Option.map_eq_some_iff.mp hg'
        cases z
    | false =>
      cases hg
      exact q H1 k1
end
end
end DL
/-! DLI: readings as syntax, what they mean, the check against the program's tree, its soundness. -/
namespace DL
noncomputable section
open PySem PySem.Spec PyProof.Rows L2

inductive Rx where
  | v (i : Nat)
  | c (d : D)
  | g (j : Nat)
  | bin (o : Operator) (a b : Rx)
  | cmp (o : CmpOp) (a b : Rx)
  | chain (o o' : CmpOp) (a b c : Rx)
  | neg (a : Rx)
  | not (a : Rx)
  | and (a b : Rx)
  | or (a b : Rx)
  | one (a : Rx)
  | ite (t a b : Rx)
  | isN (a : Rx)
  | notN (a : Rx)
  | tup (es : Rx)
  | nil
  | cons (a r : Rx)
  | consO (i : Nat) (r : Rx)
  | ix (a b : Rx)
  | oIx (i : Nat) (b : Rx)
  | cut (a lo hi : Rx)
  | rev (a : Rx)
  | noP
  | bi (b : Bi) (es : Rx)
  | isi (n : String) (a : Rx)
  | oLen (i : Nat)
  | oPop (i : Nat)
  | oPopAt (i : Nat) (b : Rx)
  | oIn (neg : Bool) (i : Nat) (a : Rx)
  | call (j : Nat) (as : Rx)
  | callB (i j : Nat) (as : Rx)
  | consB (i : Nat) (r : Rx)
  | msorted (a : Rx)
  | ml (m : Rx)
  | lst (es : Rx)
  | rep (m b : Rx)
  | mlist (a : Rx)
  | lc (it : Rx) (own : List Nat) (tg : Tg) (t a : Rx)
  | tyes
  | rng1 (a : Rx)
  | rng2 (a b : Rx)
  | zip (a b : Rx)
  | nx
  | seq (s t : Rx)
  | ret (a : Rx)
  | retN
  | retO (m : Rx)
  | set (i : Nat) (a : Rx)
  | setO (i : Nat) (m : Rx)
  | drop (a : Rx)
  | sif (t a b : Rx)
  | bk
  | ct
  | pass
  | no
  | app (i : Nat) (a : Rx)
  | ext (i : Nat) (a : Rx)
  | oSet (i : Nat) (b a : Rx)
  | asg (tg : Tg) (a : Rx)
  | par (i j : Nat) (es : Rx)
  | for (it : Rx) (tg : Tg) (body : Rx)
  | while (t body : Rx)
  | raise0 (c : Str)
  | raise1 (c fld : Str) (es : Rx)
  | tryAs (body : Rx) (i : Nat) (cn : Str) (tbl : List (Str × Bool)) (su : Sx)
  | tryIf (body : Rx) (i : Nat) (cn : Str) (tbl : List (Str × Bool)) (t : Tx) (su : Sx)

section
variable (fs : List Fn) (gs : List D)
def fnAt (j : Nat) : Fn := fs.getD j (fun _ => .bad)
mutual
/-- as an expression -/
def denE : Rx → RE
  | .v i => eV i
  | .c d => eC d
  | .g j => eC (gs.getD j .non)
  | .bin o a b => e2 ((opOf o).getD (fun _ _ => none)) (denE a) (denE b)
  | .cmp o a b => e2 ((cmpOf o).getD (fun _ _ => none)) (denE a) (denE b)
  | .chain o o' a b c => eChain ((cmpOf o).getD (fun _ _ => none)) ((cmpOf o').getD (fun _ _ => none)) (denE a) (denE b) (denE c)
  | .neg a => e1 opNeg (denE a)
  | .not a => eNot (denE a)
  | .and a b => eAnd (denE a) (denE b)
  | .or a b => eOr (denE a) (denE b)
  | .one a => denE a
  | .ite t a b => eIf (denT t) (denE a) (denE b)
  | .isN a => eIsN (denE a)
  | .notN a => eNotN (denE a)
  | .tup es => eTup (denM es)
  | .ix a b => e2 opIx (denE a) (denE b)
  | .oIx i b => DL.oIx i (denE b)
  | .cut a lo hi => eCut (denE a) (denP lo) (denP hi)
  | .rev a => e1 opRev (denE a)
  | .bi b es => eB b.op (denM es)
  | .isi n a => e1 (opIsi n) (denE a)
  | .oLen i => DL.oLen i
  | .oPop i => DL.oPop i
  | .oPopAt i b => DL.oPopAt i (denE b)
  | .oIn n i a => DL.oIn n i (denE a)
  | .call j as => eCal (fnAt fs j) (denA as)
  | .callB i j as => DL.callB i (fnAt fs j) (denB as)
  | .ml m => eM (denM m)
  | _ => fun _ => .bad
/-- as a test -/
def denT : Rx → RT
  | .not a => tNotD (denT a)
  | .and a b => tAndD (denT a) (denT b)
  | .or a b => tOrD (denT a) (denT b)
  | .one a => denT a
  | .tyes => tTrue
  | .v i => tE (eV i)
  | .c d => tE (eC d)
  | .cmp o a b => tE (e2 ((cmpOf o).getD (fun _ _ => none)) (denE a) (denE b))
  | .chain o o' a b c => tE (eChain ((cmpOf o).getD (fun _ _ => none)) ((cmpOf o').getD (fun _ _ => none)) (denE a) (denE b) (denE c))
  | .isN a => tE (eIsN (denE a))
  | .notN a => tE (eNotN (denE a))
  | .oIn n i a => tE (DL.oIn n i (denE a))
  | .ix a b => tE (e2 opIx (denE a) (denE b))
  | .oIx i b => tE (DL.oIx i (denE b))
  | .bi b es => tE (eB b.op (denM es))
  | .isi n a => tE (e1 (opIsi n) (denE a))
  | .call j as => tE (eCal (fnAt fs j) (denA as))
  | _ => fun _ => .bad
/-- as a list: several, a new list, what a loop walks -/
def denM : Rx → RM
  | .nil => eNil
  | .cons a r => eCons (denE a) (denM r)
  | .lst es => mLst (denM es)
  | .rep m b => mRep (denM m) (denE b)
  | .mlist a => mList (denE a)
  | .msorted a => mSorted (denE a)
  | .lc it own tg t a => mLc (denI it) own tg (denT t) (denE a)
  | .call j as => mCal (fnAt fs j) (denA as)
  | _ => fun _ => .bad
def denI : Rx → RM
  | .rng1 a => itR1 (denE a)
  | .rng2 a b => itR2 (denE a) (denE b)
  | .zip a b => itZ (denE a) (denE b)
  | .one a => itE (denE a)
  | _ => fun _ => .bad
def denP : Rx → DL.Env → Res (Option Int)
  | .noP => eNoPart
  | .one a => ePart (denE a)
  | _ => fun _ => .bad
def denB : Rx → List BAg
  | .cons a r => .e (denE a) :: denB r
  | .consB i r => .b i :: denB r
  | _ => []
def denA : Rx → List Ag
  | .cons a r => .e (denE a) :: denA r
  | .consO i r => .o i :: denA r
  | _ => []
end
noncomputable def denS : Rx → RS
  | .nx => sNx
  | .seq s t => sSeq (denS s) (denS t)
  | .ret a => sRet (denE fs gs a)
  | .retN => sRetN
  | .retO m => sRetO (denM fs gs m)
  | .set i a => sSet i (denE fs gs a)
  | .setO i m => sSetO i (denM fs gs m)
  | .drop a => sDrop (denE fs gs a)
  | .sif t a b => sIf (denT fs gs t) (denS a) (denS b)
  | .bk => sBk
  | .ct => sCt
  | .pass => sNx
  | .app i a => oUp appL i (denE fs gs a)
  | .ext i a => oUp extL i (denE fs gs a)
  | .oSet i b a => DL.oSet i (denE fs gs b) (denE fs gs a)
  | .asg tg a => sAsg tg (denE fs gs a)
  | .par i j es => sPar i j (denM fs gs es)
  | .for it tg body => sFor (denI fs gs it) tg (denS body)
  | .while t body => sWh (denT fs gs t) (denS body)
  | .raise0 c => sRaise0 c
  | .raise1 c fld es => sRaise1 c fld (denM fs gs es)
  | .tryAs body i _ tbl su => sTryAs (denS body) i (fun x => tbl.lookup x.c) (fun x => (suF su x).map some)
  | .tryIf body i _ tbl t su => sTryAs (denS body) i (fun x => tbl.lookup x.c) (fun x => match txF t x with
    | some true => (suF su x).map some
    | some false => some none
    | none => none)
  | _ => sNo
end

/-! ### the check -/
structure GFn where
  name : Str
  n : Nat
structure Ctx where
  N : List Str
  sc : Scope
  blk : Option Scope := none
  pl : List Nat := []
  fns : List GFn := []
  free : List Str := []
  vals : List (Str × D) := []
  excs : List GEx := []
  exm : List ((Str × Str) × Bool) := []
  exi : List IsF := []
def fnB (C : Ctx) (x : Str) : Bool := match C.blk with
  | none => true
  | some s => s.names.lookup x == some .cell
def isK (C : Ctx) (x : Str) (k : NameKind) : Bool := decide (C.sc.names.lookup x = some k)
def visB (C : Ctx) (x : Str) : Bool := isK C x .local || (isK C x .cell || isK C x .free)
def locB (C : Ctx) (x : Str) : Bool := (isK C x .local || isK C x .cell) && (fnB C x || isK C x .local)
def varB (C : Ctx) (i : Nat) (x : Str) : Bool := decide (C.N[i]? = some x) && (visB C x && (decide (x ≠ ("__debug__" : Str)) && decide (x ≠ ("__classdict__" : Str))))
def varE (C : Ctx) (i : Nat) : Expr → Bool
  | .Name x _ => varB C i x
  | _ => false
def glB (C : Ctx) (x : Str) : Bool := isK C x .globalImplicit && decide (x ≠ ("__debug__" : Str))
def freeB (C : Ctx) (x : Str) : Bool := glB C x && (C.free.elem x && decide (x ≠ ("__name__" : Str)))
def constB (d : D) : Const → Bool
  | .none => (match d with
    | .non => true
    | _ => false)
  | .bool b => (match d with
    | .bl b' => b == b'
    | _ => false)
  | .int i => (match d with
    | .int j => decide (i = j)
    | _ => false)
  | .str s => (match d with
    | .str s' => decide (s = s')
    | _ => false)
  | _ => false
def tgNames (C : Ctx) : List Expr → List Nat → Bool
  | [], [] => true
  | e :: es, i :: is => (match e with
    | .Name x _ => decide (C.N[i]? = some x) && locB C x
    | _ => false) && tgNames C es is
  | _, _ => false
def tgB (C : Ctx) (e : Expr) : Tg → Bool
  | .n i => (match e with
    | .Name x _ => decide (C.N[i]? = some x) && locB C x
    | _ => false)
  | .t is => (match e with
    | .Tuple es _ _ => tgNames C es is
    | _ => false)
def relab (scope sc : Scope) : Scope := { scope with names := scope.names.map fun (n, k) => if (k == .free && sc.kind == .function && sc.names.lookup n == some .cell) then (n, .cell) else (n, k) }
def ownOf (C : Ctx) (is : List Nat) : List (Str × Nat) := is.map fun i => (C.N.getD i "", i)
def blkB (C : Ctx) (scope : Scope) (is : List Nat) : Bool :=
  decide (scope.kind = .function) && (scope.names.all (fun y => decide (scope.names.lookup y.1 = some y.2)) && (is.all (fun i => decide (C.N[i]? = some (C.N.getD i ""))) &&
    (scope.names.all (fun y => !decide (y.2 = .free) || (isK C y.1 .cell || isK C y.1 .free)) &&
      scope.names.all fun y => !(decide (y.2 = .local) || decide (y.2 = .cell)) || (((ownOf C is).map (·.1)).elem y.1 || !C.N.elem y.1))))
def inner (C : Ctx) (scope : Scope) : Ctx := { C with sc := relab scope C.sc, blk := some scope, pl := [] }
def plB (C : Ctx) (i : Nat) : Bool := !C.pl.elem i
def tgPl (C : Ctx) (t : Tg) : Bool := (tgI t).all (plB C)
def setB (C : Ctx) (i : Nat) (x : Str) : Bool := decide (C.N[i]? = some x) && ((isK C x .local || isK C x .cell) && (plB C i && (fnB C x || isK C x .local)))
def constP (n : Nat) (e : Expr) : Bool := foldedForSure n e || constantsAlone n e

mutual
def chkE (C : Ctx) (r : Rx) (e : Expr) : Bool := match r with
  | .v i => varE C i e
  | .c d => (match e with
    | .Constant k _ _ => constB d k
    | _ => false)
  | .g j => (match e with
    | .Name x _ => glB C x && decide ((C.vals[j]?).map (·.1) = some x)
    | _ => false)
  | .bin o a b => (match e with
    | .BinOp l o' r _ => decide (o = o') && ((opOf o).isSome && (chkE C a l && chkE C b r))
    | _ => false)
  | .cmp o a b => (match e with
    | .Compare l [o'] [r] _ => decide (o = o') && ((cmpOf o).isSome && (chkE C a l && (chkE C b r && noSetB r)))
    | _ => false)
  | .chain o o' a b c => (match e with
    | .Compare l [p, p'] [m, r] _ => decide (o = p) && (decide (o' = p') && ((cmpOf o).isSome && ((cmpOf o').isSome && (chkE C a l && (chkE C b m && (chkE C c r && noSetB r))))))
    | _ => false)
  | .neg a => (match e with
    | .UnaryOp .USub x _ => chkE C a x
    | _ => false)
  | .not a => (match e with
    | .UnaryOp .Not x _ => chkE C a x
    | _ => false)
  | .and a b => (match e with
    | .BoolOp .And (x :: y :: r) p => chkE C a x && chkE C b (.BoolOp .And (y :: r) p)
    | _ => false)
  | .or a b => (match e with
    | .BoolOp .Or (x :: y :: r) p => chkE C a x && chkE C b (.BoolOp .Or (y :: r) p)
    | _ => false)
  | .one a => (match e with
    | .BoolOp _ [x] _ => chkE C a x
    | _ => false)
  | .ite t a b => (match e with
    | .IfExp c x y _ => chkT C t c && (chkE C a x && chkE C b y)
    | _ => false)
  | .isN a => (match e with
    | .Compare x [.Is] [.Constant .none _ _] _ => chkE C a x
    | _ => false)
  | .notN a => (match e with
    | .Compare x [.IsNot] [.Constant .none _ _] _ => chkE C a x
    | _ => false)
  | .tup es => (match e with
    | .Tuple xs _ _ => chkL C es xs
    | _ => false)
  | .ix a b => (match e with
    | .Subscript x i _ => chkE C a x && (chkE C b i && noSliceB i)
    | _ => false)
  | .oIx k b => (match e with
    | .Subscript (.Name x _) i _ => varB C k x && (chkE C b i && noSliceB i)
    | _ => false)
  | .cut a lo hi => (match e with
    | .Subscript x (.Slice l h none _) _ => chkE C a x && (chkP C lo l && chkP C hi h)
    | _ => false)
  | .rev a => (match e with
    | .Subscript x (.Slice none none (some (.UnaryOp .USub (.Constant (.int i) _ _) _)) _) _ => decide (i = 1) && chkE C a x
    | _ => false)
  | .bi b es => (match e with
    | .Call (.Name x _) (y :: ys) [] _ => decide (x = b.name) && (freeB C b.name && (chkL C es (y :: ys) && (y :: ys).all plainB))
    | _ => false)
  | .isi n a => (match e with
    | .Call (.Name x _) [y, .Name z _] [] _ => decide (x = "isinstance") && (freeB C "isinstance" && (freeB C z && (decide (bootBuiltins z = some (.type n)) && (chkE C a y && plainB y))))
    | _ => false)
  | .oLen i => (match e with
    | .Call (.Name x _) [.Name z _] [] _ => decide (x = "len") && (freeB C "len" && varB C i z)
    | _ => false)
  | .oPop i => (match e with
    | .Call (.Attribute (.Name z _) nm ap) [] [] pos => decide (nm = "pop") && (varB C i z && (ap.endLine == pos.line))
    | _ => false)
  | .oPopAt i b => (match e with
    | .Call (.Attribute (.Name z _) nm ap) [y] [] pos => decide (nm = "pop") && (varB C i z && ((ap.endLine == pos.line) && (chkE C b y && plainB y)))
    | _ => false)
  | .oIn n i a => (match e with
    | .Compare y [o] [.Name z _] _ => decide (o = if n then .NotIn else .In) && (varB C i z && chkE C a y)
    | _ => false)
  | .call j as => (match e with
    | .Call (.Name x _) (y :: ys) [] _ => (match C.fns[j]? with
      | some g => decide (g.name = x) && (glB C x && (decide (g.n = (y :: ys).length) && (chkA C as (y :: ys) && ((y :: ys).all plainB && decide (agO (denA [] [] as)).Nodup))))
      | none => false)
    | _ => false)
  | .callB i j as => (match e with
    | .Call (.Name x _) (y :: ys) [] _ => (match C.fns[j]? with
      | some g => decide (g.name = x) && (glB C x && (decide (g.n = (y :: ys).length) && (chkB C as (y :: ys) && ((y :: ys).all plainB && bgI i (denB [] [] as)))))
      | none => false)
    | _ => false)
  | .ml m => chkM C m e
  | _ => false
def chkT (C : Ctx) (r : Rx) (e : Expr) : Bool := match r with
  | .not a => (match e with
    | .UnaryOp .Not x _ => chkT C a x
    | _ => false)
  | .and a b => (match e with
    | .BoolOp .And (x :: y :: r) p => chkT C a x && chkW C b (.BoolOp .And (y :: r) p)
    | _ => false)
  | .or a b => (match e with
    | .BoolOp .Or (x :: y :: r) p => chkT C a x && chkW C b (.BoolOp .Or (y :: r) p)
    | _ => false)
  | .cmp o a b => (match e with
    | .Compare l [o'] [r] _ => decide (o = o') && ((cmpOf o).isSome && (chkE C a l && (chkE C b r && noSetB r)))
    | _ => false)
  | .chain o o' a b c => (match e with
    | .Compare l [p, p'] [m, r] _ => decide (o = p) && (decide (o' = p') && ((cmpOf o).isSome && ((cmpOf o').isSome && (chkE C a l && (chkE C b m && (chkE C c r && noSetB r))))))
    | _ => false)
  | .isN a => (match e with
    | .Compare x [.Is] [.Constant .none _ _] _ => chkE C a x
    | _ => false)
  | .notN a => (match e with
    | .Compare x [.IsNot] [.Constant .none _ _] _ => chkE C a x
    | _ => false)
  | .oIn n i a => (match e with
    | .Compare y [o] [.Name z _] _ => decide (o = if n then .NotIn else .In) && (varB C i z && chkE C a y)
    | _ => false)
  | .v i => varE C i e
  | .ix a b => (match e with
    | .Subscript x i _ => chkE C a x && (chkE C b i && noSliceB i)
    | _ => false)
  | .oIx k b => (match e with
    | .Subscript (.Name x _) i _ => varB C k x && (chkE C b i && noSliceB i)
    | _ => false)
  | .bi b es => (match e with
    | .Call (.Name x _) (y :: ys) [] _ => decide (x = b.name) && (freeB C b.name && (chkL C es (y :: ys) && (y :: ys).all plainB))
    | _ => false)
  | .isi n a => (match e with
    | .Call (.Name x _) [y, .Name z _] [] _ => decide (x = "isinstance") && (freeB C "isinstance" && (freeB C z && (decide (bootBuiltins z = some (.type n)) && (chkE C a y && plainB y))))
    | _ => false)
  | .call j as => (match e with
    | .Call (.Name x _) (y :: ys) [] _ => (match C.fns[j]? with
      | some g => decide (g.name = x) && (glB C x && (decide (g.n = (y :: ys).length) && (chkA C as (y :: ys) && ((y :: ys).all plainB && decide (agO (denA [] [] as)).Nodup))))
      | none => false)
    | _ => false)
  | _ => false
/-- and .. and .., or .. or .. : the rest of it -/
def chkW (C : Ctx) (r : Rx) (e : Expr) : Bool := match r with
  | .and a b => (match e with
    | .BoolOp .And (x :: y :: r) p => chkT C a x && chkW C b (.BoolOp .And (y :: r) p)
    | _ => false)
  | .or a b => (match e with
    | .BoolOp .Or (x :: y :: r) p => chkT C a x && chkW C b (.BoolOp .Or (y :: r) p)
    | _ => false)
  | .one a => (match e with
    | .BoolOp _ [x] _ => chkT C a x
    | _ => false)
  | _ => false
/-- several -/
def chkL (C : Ctx) (r : Rx) (es : List Expr) : Bool := match r with
  | .nil => (match es with
    | [] => true
    | _ => false)
  | .cons a r => (match es with
    | e :: es => chkE C a e && (plainB e && chkL C r es)
    | [] => false)
  | _ => false
def chkA (C : Ctx) (r : Rx) (es : List Expr) : Bool := match r with
  | .nil => (match es with
    | [] => true
    | _ => false)
  | .cons a r => (match es with
    | e :: es => chkE C a e && (plainB e && chkA C r es)
    | [] => false)
  | .consO i r => (match es with
    | .Name x _ :: es => varB C i x && chkA C r es
    | _ => false)
  | _ => false
def chkB (C : Ctx) (r : Rx) (es : List Expr) : Bool := match r with
  | .nil => (match es with
    | [] => true
    | _ => false)
  | .cons a r => (match es with
    | e :: es => chkE C a e && (plainB e && chkB C r es)
    | [] => false)
  | .consB i r => (match es with
    | .Name x _ :: es => varB C i x && chkB C r es
    | _ => false)
  | _ => false
def chkP (C : Ctx) (r : Rx) (e : Option Expr) : Bool := match r with
  | .noP => (match e with
    | none => true
    | some _ => false)
  | .one a => (match e with
    | some x => chkE C a x
    | none => false)
  | _ => false
/-- a new list -/
def chkM (C : Ctx) (r : Rx) (e : Expr) : Bool := match r with
  | .lst es => (match e with
    | .List xs _ => chkL C es xs
    | _ => false)
  | .rep m b => (match e with
    | .BinOp x .Mult y _ => chkM C m x && chkE C b y
    | _ => false)
  | .mlist a => (match e with
    | .Call (.Name x _) [y] [] _ => decide (x = "list") && (freeB C "list" && (chkE C a y && plainB y))
    | _ => false)
  | .msorted a => (match e with
    | .Call (.Name x _) [y] [] _ => decide (x = "sorted") && (freeB C "sorted" && (chkE C a y && plainB y))
    | _ => false)
  | .lc it own tg t a => (match e with
    | .ListComp elt [⟨tgE, iter, ifs, as⟩] scope _ => decide (as = 0) && (chkI C it tgE iter && (blkB C scope own && ((tgI tg).all (fun i => own.elem i) && (tgB (inner C scope) tgE tg && (chkTs (inner C scope) t ifs && (chkE (inner C scope) a elt && noSetB iter))))))
    | _ => false)
  | .call j as => (match e with
    | .Call (.Name x _) (y :: ys) [] _ => (match C.fns[j]? with
      | some g => decide (g.name = x) && (glB C x && (decide (g.n = (y :: ys).length) && (chkA C as (y :: ys) && ((y :: ys).all plainB && decide (agO (denA [] [] as)).Nodup))))
      | none => false)
    | _ => false)
  | _ => false
def chkTs (C : Ctx) (r : Rx) (es : List Expr) : Bool := match r with
  | .tyes => (match es with
    | [] => true
    | _ => false)
  | .one a => (match es with
    | [e] => chkT C a e
    | _ => false)
  | _ => false
/-- what a loop walks -/
def chkI (C : Ctx) (r : Rx) (tg e : Expr) : Bool := match r with
  | .one a => chkE C a e
  | .rng1 a => (match e with
    | .Call (.Name x _) [y] [] _ => decide (x = "range") && (freeB C "range" && (chkE C a y && plainB y))
    | _ => false)
  | .rng2 a b => (match e with
    | .Call (.Name x _) [y, z] [] _ => decide (x = "range") && (freeB C "range" && (chkE C a y && (chkE C b z && (plainB y && plainB z))))
    | _ => false)
  | .zip a b => (match tg with
    | .Tuple _ _ _ => (match e with
      | .Call (.Name x _) [y, z] [] _ => decide (x = "zip") && (freeB C "zip" && (chkE C a y && (chkE C b z && (plainB y && plainB z))))
      | _ => false)
    | _ => false)
  | _ => false
end
def swLc (C : Ctx) (x : Str) (scope : Scope) (py pos : Pos) : Bool := decide (C.sc.kind = .function) && (isK C x .local && ((py.line == pos.line) && !(scope.names.any fun (n, k) => n == x && (k == .local || k == .cell))))
def parB (C : Ctx) (i j : Nat) (es : Rx) (st : Stmt) : Bool := match st with
  | .Assign [.Tuple [.Name x px, .Name y py] _ _] (.Tuple [a, b] _ _) _ => decide (C.sc.kind = .function) && (decide (C.N[i]? = some x) && (decide (C.N[j]? = some y) && (!decide (i = j) && (!decide (x = y) && (isK C x .local && (isK C y .local && (plB C i && (plB C j &&
      ((py.line == px.line) && (chkL C es [a, b] && (!([a, b].all (foldedForSure 8)) && !([a, b].all (constantsAlone 8)))))))))))))
  | _ => false
def hasX (C : Ctx) (c : Str) (f : Option Str) : Bool := C.excs.any fun g => decide (g.name = c) && decide (g.fld = f)
def chkSx (C : Ctx) (n : Str) : Sx → Expr → Bool
  | .c d, e => (match e with
    | .Constant k _ _ => constB d k
    | _ => false)
  | .f ns k, e => (match e with
    | .Attribute (.Name z _) k' _ => decide (z = n) && (decide (k' = k) && (ns.all (fun c => hasX C c (some k)) && (decide (n ≠ ("__debug__" : Str)) && decide (n ≠ ("__classdict__" : Str)))))
    | _ => false)
  | .two a b, e => (match e with
    | .Tuple [x, y] _ _ => chkSx C n a x && (chkSx C n b y && (plainB x && plainB y))
    | _ => false)
def clB (C : Ctx) : Cl → Expr → Bool
  | .own c, e => (match e with
    | .Name x _ => decide (x = c) && (glB C x && (C.excs.any fun g => decide (g.name = c)))
    | _ => false)
  | .ty n, e => (match e with
    | .Name x _ => decide (x = PySem.Str.ofString n) && (freeB C x && decide (bootBuiltins x = some (.type n)))
    | _ => false)
def nmB (n : Str) : Expr → Bool
  | .Name z _ => decide (z = n)
  | _ => false
mutual
def chkTx (C : Ctx) (n : Str) (t : Tx) (e : Expr) : Bool := match t with
  | .is1 c tb => (match e with
    | .Call (.Name x _) [z, y] [] _ => decide (x = "isinstance") && (freeB C "isinstance" && (nmB n z && (clB C c y && tb.all fun q => C.exi.elem ((q.1, [c]), q.2))))
    | _ => false)
  | .is2 c d tb => (match e with
    | .Call (.Name x _) [z, .Tuple [y, w] _ _] [] _ => decide (x = "isinstance") && (freeB C "isinstance" && (nmB n z && (clB C c y && (clB C d w && tb.all fun q => C.exi.elem ((q.1, [c, d]), q.2)))))
    | _ => false)
  | .not t => (match e with
    | .UnaryOp .Not x _ => chkTx C n t x
    | _ => false)
  | .and t u => (match e with
    | .BoolOp .And (x :: y :: r) p => chkTx C n t x && chkTw C n u (.BoolOp .And (y :: r) p)
    | _ => false)
  | .one _ => false
def chkTw (C : Ctx) (n : Str) (t : Tx) (e : Expr) : Bool := match t with
  | .one t => (match e with
    | .BoolOp .And [x] _ => chkTx C n t x
    | _ => false)
  | .and t u => (match e with
    | .BoolOp .And (x :: y :: r) p => chkTx C n t x && chkTw C n u (.BoolOp .And (y :: r) p)
    | _ => false)
  | _ => false
end
mutual
def chkS (C : Ctx) (r : Rx) (st : Stmt) : Bool := match r with
  | .ret a => (match st with
    | .Return (some e) _ => chkE C a e
    | _ => false)
  | .retN => (match st with
    | .Return none _ => true
    | _ => false)
  | .retO m => (match st with
    | .Return (some e) _ => chkM C m e
    | _ => false)
  | .set i a => (match st with
    | .Assign [.Name x py] e sp => setB C i x && ((chkE C a e && (noCompB e || isK C x .cell)) || (match a with
      | .ml (.lc it own tg t b) => (match e with
        | .ListComp elt [⟨tgE, iter, ifs, as⟩] scope pos => swLc C x scope py pos && (decide (as = 0) && (chkI C it tgE iter && (blkB C scope own && ((tgI tg).all (fun i => own.elem i) && (tgB (inner C scope) tgE tg && (chkTs (inner C scope) t ifs && (chkE (inner C scope) b elt && noSetB iter)))))))
        | _ => false)
      | _ => false))
    | _ => false)
  | .setO i m => (match st with
    | .Assign [.Name x py] e sp => setB C i x && ((chkM C m e && (noCompB e || isK C x .cell)) || (match m with
      | .lc it own tg t b => (match e with
        | .ListComp elt [⟨tgE, iter, ifs, as⟩] scope pos => swLc C x scope py pos && (decide (as = 0) && (chkI C it tgE iter && (blkB C scope own && ((tgI tg).all (fun i => own.elem i) && (tgB (inner C scope) tgE tg && (chkTs (inner C scope) t ifs && (chkE (inner C scope) b elt && noSetB iter)))))))
        | _ => false)
      | _ => false))
    | _ => false)
  | .drop a => (match st with
    | .Expr e _ => chkE C a e && noCompB e
    | _ => false)
  | .sif t a b => (match st with
    | .If c u v _ => chkT C t c && (chkSs C a u && chkSs C b v)
    | _ => false)
  | .bk => (match st with
    | .Break _ => true
    | _ => false)
  | .ct => (match st with
    | .Continue _ => true
    | _ => false)
  | .pass => (match st with
    | .Pass _ => true
    | _ => false)
  | .no => true
  | .app i a => (match st with
    | .Expr (.Call (.Attribute (.Name z _) nm ap) [y] [] pos) _ => decide (nm = "append") && (varB C i z && ((ap.endLine == pos.line) && (chkE C a y && plainB y)))
    | _ => false)
  | .ext i a => (match st with
    | .Expr (.Call (.Attribute (.Name z _) nm ap) [y] [] pos) _ => decide (nm = "extend") && (varB C i z && ((ap.endLine == pos.line) && (chkE C a y && plainB y)))
    | _ => false)
  | .oSet i b a => (match st with
    | .Assign [.Subscript (.Name z _) y _] e _ => varB C i z && (chkE C b y && (chkE C a e && (noSliceB y && noCompB e)))
    | _ => false)
  | .asg tg a => (match st with
    | .Assign [.Tuple ts k p] (.Call f as ks p2) _ => tgB C (.Tuple ts k p) tg && (tgPl C tg && chkE C a (.Call f as ks p2))
    | .Assign [.Tuple ts k p] (.Subscript f as p2) _ => tgB C (.Tuple ts k p) tg && (tgPl C tg && chkE C a (.Subscript f as p2))
    | .Assign [.Tuple ts k p] (.Name f p2) _ => tgB C (.Tuple ts k p) tg && (tgPl C tg && chkE C a (.Name f p2))
    | _ => false)
  | .par i j es => parB C i j es st
  | .for it tg body => (match st with
    | .For tgE iter b [] _ => chkI C it tgE iter && (tgB C tgE tg && (tgPl C tg && (chkSs C body b && noSetB iter)))
    | _ => false)
  | .while t body => (match st with
    | .While c b [] _ => chkT C t c && chkSs C body b
    | _ => false)
  | .raise0 c => (match st with
    | .Raise (some (.Call (.Name x _) [.Constant (.str _) _ _] [] _)) none _ => decide (x = c) && (glB C x && hasX C c none)
    | _ => false)
  | .raise1 c fld es => (match st with
    | .Raise (some (.Call (.Name x _) [e] [] _)) none _ => decide (x = c) && (glB C x && (hasX C c (some fld) && (chkL C es [e] && plainB e)))
    | _ => false)
  | .tryAs body i cn tbl su => (match st with
    | .Try b [.ExceptHandler (some (.Name x _)) (some n) [.Return (some e) _] _] [] [] _ => decide (x = cn) && (glB C x && ((C.excs.any fun g => decide (g.name = cn)) && (decide (C.N[i]? = some n) && (isK C n .local && (plB C i && (tbl.all (fun q => C.exm.elem ((q.1, cn), q.2)) && (chkSs C body b && chkSx C n su e)))))))
    | _ => false)
  | .tryIf body i cn tbl t su => (match st with
    | .Try b [.ExceptHandler (some (.Name x _)) (some n) [.If te [.Return (some e) _] [] _] _] [] [] _ => decide (x = cn) && (glB C x && ((C.excs.any fun g => decide (g.name = cn)) && (decide (C.N[i]? = some n) && (isK C n .local && (plB C i && (tbl.all (fun q => C.exm.elem ((q.1, cn), q.2)) && (chkSs C body b && (chkSx C n su e && (chkTx C n t te && (decide (n ≠ ("__debug__" : Str)) && decide (n ≠ ("__classdict__" : Str))))))))))))
    | _ => false)
  | _ => false
def chkSs (C : Ctx) (r : Rx) (sts : List Stmt) : Bool := match r with
  | .nx => (match sts with
    | [] => true
    | _ => false)
  | .seq s t => (match sts with
    | st :: sts => chkS C s st && chkSs C t sts
    | [] => false)
  | _ => false
end
end
end DL
/-! DLJ: the check is sound. -/
namespace DL
open PySem PySem.Spec PyProof.Rows L2

structure CtxOk (C : Ctx) (fs : List Fn) (gs : List D) (X : Cx) : Prop where
  N : X.N = C.N
  nd : C.N.Nodup
  sc : X.env.scope = C.sc
  calm : X.calm = true
  fn : ∀ x, fnB C x = true → X.fn x = true
  gf : ∀ j g, C.fns[j]? = some g → ∃ k f fd ps, X.mg g.name = some (.ref f) ∧ FnOk X.prog X.w X.K X.mg X.base (L2.CX X.prog X.w) k f fd ps (spD X.K g.n (fnAt fs j)) ∧ Room k X.A ∧ PySem.W.keepIn X.K (.ref f) = true ∧ Binds X.K fd ps []
  free : ∀ x, C.free.elem x = true → X.mg x = none
  vals : ∀ j x, (C.vals[j]?).map (·.1) = some x → ∃ u v, X.mg x = some u ∧ RelV v u ∧ ∀ H, VR X.K H (gs.getD j .non) v
  un : X.A.units + 65 < cLine
  exs : ∀ g ∈ C.excs, GExc X.prog X.w X.K X.mg X.base g
  exm : ∀ q ∈ C.exm, PySem.W.exmOne X.K (.ref (He.ga X.K q.1.1)) (.ref (He.ga X.K q.1.2)) = some q.2
  rm : C.excs ≠ [] → Room 2 X.A
  exi : ∀ q ∈ C.exi, IsF.ok X.K q
structure WOk (X : Cx) (W : WX) : Prop where
  tk : Takes X W
theorem WOk.pa {X : Cx} {W : WX} (w : WOk X W) : ∀ σ, PassesAt (L2.CX X.prog X.w) X σ (WE W σ) := fun σ => passAt w.tk σ
theorem w0_ok (X : Cx) : WOk X W0 := ⟨fun u s' x => by
  obtain ⟨_, _, _, _, _, _, _, _, _, _, _, _, _, _, _, _, z⟩ := x
  exact z.elim⟩

theorem ba2 {a b : Bool} (h : (a && b) = true) : a = true ∧ b = true := Bool.and_eq_true_iff.mp h
theorem isK_ok {C : Ctx} {fs : List Fn} {gs : List D} {X : Cx} (ok : CtxOk C fs gs X) {x : Str} {k : NameKind} (h : isK C x k = true) : X.env.scope.names.lookup x = some k := by
  rw [ok.sc]
  exact of_decide_eq_true h
section
variable {C : Ctx} {fs : List Fn} {gs : List D} {X : Cx}
theorem vis_ok (ok : CtxOk C fs gs X) {x : Str} (h : visB C x = true) : Vis X.env.scope x := by
  unfold visB at h
  rcases Bool.or_eq_true_iff.mp h with h | h
  · exact .inl (isK_ok ok h)
  · rcases Bool.or_eq_true_iff.mp h with h | h
    · exact .inr (.inl (isK_ok ok h))
    · exact .inr (.inr (isK_ok ok h))
theorem loc_ok (ok : CtxOk C fs gs X) {x : Str} (h : (isK C x .local || isK C x .cell) = true) : Loc X.env.scope x := by
  rcases Bool.or_eq_true_iff.mp h with h | h
  · exact .inl (isK_ok ok h)
  · exact .inr (isK_ok ok h)
theorem ff_ok (ok : CtxOk C fs gs X) {x : Str} (h : (fnB C x || isK C x .local) = true) : X.fn x = true ∨ X.env.scope.names.lookup x = some .local := by
  rcases Bool.or_eq_true_iff.mp h with h | h
  · exact .inl (ok.fn x h)
  · exact .inr (isK_ok ok h)
theorem ne_ok {x y : Str} (h : decide (x ≠ y) = true) : (x == y) = false := by
  have := of_decide_eq_true h
  simpa using this
theorem var_ok (ok : CtxOk C fs gs X) {i : Nat} {x : Str} {pos : Pos} (h : varB C i x = true) : PE X (.Name x pos) (tVar i) := by
  obtain ⟨h1, h2⟩ := ba2 h
  obtain ⟨h2, h3⟩ := ba2 h2
  obtain ⟨h3, h4⟩ := ba2 h3
  exact pe_var (by rw [ok.N]; exact of_decide_eq_true h1) (vis_ok ok h2) (ne_ok h3) (ne_ok h4)
theorem gl_ok (ok : CtxOk C fs gs X) {x : Str} (h : glB C x = true) : Gl X x ∧ (x == ("__debug__" : Str)) = false := by
  obtain ⟨h1, h2⟩ := ba2 h
  exact ⟨isK_ok ok h1, ne_ok h2⟩
theorem free_ok (ok : CtxOk C fs gs X) {x : Str} (h : freeB C x = true) : Gl X x ∧ X.mg x = none ∧ (x == ("__debug__" : Str)) = false ∧ x ≠ "__name__" := by
  obtain ⟨h1, h2⟩ := ba2 h
  obtain ⟨h2, h3⟩ := ba2 h2
  exact ⟨(gl_ok ok h1).1, ok.free x h2, (gl_ok ok h1).2, of_decide_eq_true h3⟩
theorem constB_ok {d : D} {k : Const} (h : constB d k = true) {j : Nat} {p : Pos} : ∃ v, PE X (.Constant k j p) (tC v) ∧ ∀ H, VR X.K H d v := by
  cases k with
  | none =>
    cases d with
    | non => exact ⟨_, pe_non, fun _ => .non⟩
    | _ => cases h
  | bool b =>
    cases d with
    | bl b' =>
      have e : b' = b := (by simpa [constB] using h : b = b').symm
      subst e
      exact ⟨_, pe_bl, fun _ => .bl _⟩
    | _ => cases h
  | int i =>
    cases d with
    | int b' =>
      have e : i = b' := of_decide_eq_true h
      subst e
      exact ⟨_, pe_int, fun _ => .int _⟩
    | _ => cases h
  | str s =>
    cases d with
    | str b' =>
      have e : s = b' := of_decide_eq_true h
      subst e
      exact ⟨_, pe_str, fun _ => .str _⟩
    | _ => cases h
  | _ => cases h
theorem tgNames_ok (ok : CtxOk C fs gs X) : ∀ {es : List Expr} {is : List Nat}, tgNames C es is = true → DGs X es is ∧ (assignEach es X.env).length = is.length ∧ (assignEach es X.env).findIdx? (·.1) = none
  | [], [], _ => ⟨dgs_nil, rfl, rfl⟩
  | [], _ :: _, h => by cases h
  | _ :: _, [], h => by cases h
  | e :: es, i :: is, h => by
    obtain ⟨h1, h2⟩ := ba2 h
    obtain ⟨g1, g2, g3⟩ := tgNames_ok ok h2
    cases e with
    | Name x p =>
      obtain ⟨a1, a2⟩ := ba2 h1
      obtain ⟨a3, a4⟩ := ba2 a2
      refine ⟨dgs_cons (pg_name (by rw [ok.N]; exact ok.nd) (by rw [ok.N]; exact of_decide_eq_true a1) (loc_ok ok a3) (ff_ok ok a4)) g1 rfl, ?_, ?_⟩
      · show (assignEach es X.env).length + 1 = is.length + 1
        rw [g2]
      · show ((false, assign (.Name x p) X.env) :: assignEach es X.env).findIdx? (·.1) = none
        rw [List.findIdx?_cons]
        simp [g3]
    | _ => cases h1
theorem tg_ok (ok : CtxOk C fs gs X) {e : Expr} {t : Tg} (h : tgB C e t = true) : DG X e t := by
  cases t with
  | n i =>
    cases e with
    | Name x p =>
      obtain ⟨a1, a2⟩ := ba2 h
      obtain ⟨a3, a4⟩ := ba2 a2
      exact dg_name (pg_name (by rw [ok.N]; exact ok.nd) (by rw [ok.N]; exact of_decide_eq_true a1) (loc_ok ok a3) (ff_ok ok a4))
    | _ => cases h
  | t is =>
    cases e with
    | Tuple es k p =>
      obtain ⟨g1, g2, g3⟩ := tgNames_ok ok (show tgNames C es is = true from h)
      exact dg_tup ok.calm g1 g2 g3
    | _ => cases h
theorem ownOf_snd (is : List Nat) : (ownOf C is).map (·.2) = is := by
  unfold ownOf
  rw [List.map_map]
  exact List.map_id _
theorem blk_ok (ok : CtxOk C fs gs X) {scope : Scope} {is : List Nat} (h : blkB C scope is = true) : BlkOk X.N X.env.scope scope (ownOf C is) := by
  obtain ⟨h1, h⟩ := ba2 h
  obtain ⟨h2, h⟩ := ba2 h
  obtain ⟨h3, h⟩ := ba2 h
  obtain ⟨h4, h5⟩ := ba2 h
  refine ⟨of_decide_eq_true h1, fun y hy => of_decide_eq_true (List.all_eq_true.mp h2 y hy), fun p hp => ?_, fun y hy e => ?_, fun y hy e => ?_⟩
  · unfold ownOf at hp
    obtain ⟨i, hi, rfl⟩ := List.mem_map.mp hp
    rw [ok.N]
    exact of_decide_eq_true (List.all_eq_true.mp h3 i hi)
  · have := List.all_eq_true.mp h4 y hy
    rw [decide_eq_true e] at this
    rw [ok.sc]
    rcases Bool.or_eq_true_iff.mp (by simpa using this : (isK C y.1 .cell || isK C y.1 .free) = true) with z | z
    · exact .inl (of_decide_eq_true z)
    · exact .inr (of_decide_eq_true z)
  · have := List.all_eq_true.mp h5 y hy
    have e' : (decide (y.2 = NameKind.local) || decide (y.2 = NameKind.cell)) = true := by
      rcases e with e | e
      · rw [decide_eq_true e]; rfl
      · rw [decide_eq_true e, Bool.or_true]
    rw [e'] at this
    rcases Bool.or_eq_true_iff.mp (by simpa using this : (((ownOf C is).map (·.1)).elem y.1 || !C.N.elem y.1) = true) with z | z
    · exact .inl (by simpa using z)
    · right
      rw [ok.N]
      simpa using z
theorem relab_ok (ok : CtxOk C fs gs X) (scope : Scope) (cl : List (Str × Addr)) (L : Addr) : (compEnvC scope cl L X.env).scope = relab scope C.sc := by
  show relabel scope X.env = relab scope C.sc
  unfold relabel relab
  rw [← ok.sc]
  rfl
theorem inner_ok (ok : CtxOk C fs gs X) (scope : Scope) (s : Shared) (H : Hp) (L : Addr) (cl : List (Str × Addr)) (fp : List Addr) : CtxOk (inner C scope) fs gs (X.blk s H scope (compEnvC scope cl L X.env) fp) :=
  ⟨ok.N, ok.nd, relab_ok ok scope cl L, ok.calm, fun x h => h, ok.gf, ok.free, ok.vals, ok.un, ok.exs, ok.exm, ok.rm, ok.exi⟩
theorem agO_den (r : Rx) : agO (denA fs gs r) = agO (denA [] [] r) := by
  induction r with
  | cons a r _ ih =>
    simp only [denA, agO]
    exact ih
  | consO i r ih => simp only [denA, agO, ih]
  | _ => simp only [denA]
theorem bgI_den (i : Nat) (r : Rx) : bgI i (denB fs gs r) = bgI i (denB [] [] r) := by
  induction r with
  | cons a r _ ih =>
    simp only [denB, bgI]
    exact ih
  | consB k r ih => simp only [denB, bgI, ih]
  | _ => simp only [denB]
theorem chkB_len : ∀ (r : Rx) (es : List Expr), chkB C r es = true → (denB fs gs r).length = es.length := by
  intro r
  induction r with
  | nil => intro es h; cases es with
    | nil => rfl
    | cons e es => cases h
  | cons a r _ ih => intro es h; cases es with
    | nil => cases h
    | cons e es =>
      obtain ⟨_, h⟩ := ba2 h
      obtain ⟨_, h⟩ := ba2 h
      exact congrArg Nat.succ (ih es h)
  | consB i r ih => intro es h; cases es with
    | nil => cases h
    | cons e es =>
      cases e with
      | Name x p =>
        obtain ⟨_, h⟩ := ba2 h
        exact congrArg Nat.succ (ih es h)
      | _ => cases h
  | _ => intro es h; cases h
theorem chkA_len : ∀ (r : Rx) (es : List Expr), chkA C r es = true → (denA fs gs r).length = es.length := by
  intro r
  induction r with
  | nil => intro es h; cases es with
    | nil => rfl
    | cons e es => cases h
  | cons a r _ ih => intro es h; cases es with
    | nil => cases h
    | cons e es =>
      obtain ⟨_, h⟩ := ba2 h
      obtain ⟨_, h⟩ := ba2 h
      exact congrArg Nat.succ (ih es h)
  | consO i r ih => intro es h; cases es with
    | nil => cases h
    | cons e es =>
      cases e with
      | Name x p =>
        obtain ⟨_, h⟩ := ba2 h
        exact congrArg Nat.succ (ih es h)
      | _ => cases h
  | _ => intro es h; cases h
theorem getD_op {α : Type} {o : Option α} {d : α} (h : o.isSome = true) : o = some (o.getD d) := by
  cases o with
  | none => cases h
  | some a => rfl
theorem last_ok {o o' : CmpOp} {b c : Expr} (h : noSetB c = true) : lastMarks [o, o'] [b, c] = false := by
  show behindInMarks o' c = false
  exact mark_ok h o'
end

theorem dw_single {X : Cx} {pl : List Nat} {W : WX} {a : Expr} {pos : Pos} {t : RT} (o : BoolOp) (h : DT X pl W a t) : DW X pl W (.BoolOp o [a] pos) t := by
  cases o with
  | And => exact dw_and1 h
  | Or => exact dw_or1 h
mutual
theorem sndE {C : Ctx} {fs : List Fn} {gs : List D} {X : Cx} {W : WX} (ok : CtxOk C fs gs X) (w : WOk X W) (r : Rx) (e : Expr) (h : chkE C r e = true) : DE X C.pl W e (denE fs gs r) := by
  cases r with
  | v i =>
    cases e with
    | Name x p => exact de_var (var_ok ok h)
    | _ => cases h
  | c d =>
    cases e with
    | Constant k j p =>
      obtain ⟨v, h1, h2⟩ := constB_ok (X := X) (show constB d k = true from h) (j := j) (p := p)
      exact de_const h1 h2
    | _ => cases h
  | g j =>
    cases e with
    | Name x p =>
      obtain ⟨h1, h2⟩ := ba2 h
      obtain ⟨g1, g2⟩ := gl_ok ok h1
      obtain ⟨u, v, q1, q2, q3⟩ := ok.vals j x (of_decide_eq_true h2)
      exact de_const (pe_glob g1 q1 q2 g2) q3
    | _ => cases h
  | bin o a b =>
    cases e with
    | BinOp l o' r p =>
      obtain ⟨h1, h⟩ := ba2 h
      obtain ⟨h2, h⟩ := ba2 h
      obtain ⟨h3, h4⟩ := ba2 h
      cases of_decide_eq_true h1
      exact de_op (opOf_ok (getD_op h2)) (sndE ok w a l h3) (sndE ok w b r h4)
    | _ => cases h
  | cmp o a b =>
    have h : (match (generalizing := false) e with
      | .Compare l [o'] [r] _ => decide (o = o') && ((cmpOf o).isSome && (chkE C a l && (chkE C b r && noSetB r)))
      | _ => false) = true := h
    split at h
    · obtain ⟨h1, h⟩ := ba2 h
      obtain ⟨h2, h⟩ := ba2 h
      obtain ⟨h3, h⟩ := ba2 h
      obtain ⟨h4, h5⟩ := ba2 h
      cases of_decide_eq_true h1
      exact de_cmp (cmpOf_ok ok.un (getD_op h2)) (sndE ok w a _ h3) (sndE ok w b _ h4) (mark_ok h5 _)
    · cases h
  | chain o o' a b c =>
    have h : (match (generalizing := false) e with
      | .Compare l [p, p'] [m, r] _ => decide (o = p) && (decide (o' = p') && ((cmpOf o).isSome && ((cmpOf o').isSome && (chkE C a l && (chkE C b m && (chkE C c r && noSetB r))))))
      | _ => false) = true := h
    split at h
    · obtain ⟨h1, h⟩ := ba2 h
      obtain ⟨h1', h⟩ := ba2 h
      obtain ⟨h2, h⟩ := ba2 h
      obtain ⟨h2', h⟩ := ba2 h
      obtain ⟨h3, h⟩ := ba2 h
      obtain ⟨h4, h⟩ := ba2 h
      obtain ⟨h5, h6⟩ := ba2 h
      cases of_decide_eq_true h1
      cases of_decide_eq_true h1'
      exact de_chain (cmpOf_ok ok.un (getD_op h2)) (cmpOf_ok ok.un (getD_op h2')) (sndE ok w a _ h3) (sndE ok w b _ h4) (sndE ok w c _ h5) (last_ok h6)
    · cases h
  | neg a =>
    have h : (match (generalizing := false) e with
      | .UnaryOp .USub x _ => chkE C a x
      | _ => false) = true := h
    split at h
    · exact de_neg (sndE ok w a _ h)
    · cases h
  | not a =>
    have h : (match (generalizing := false) e with
      | .UnaryOp .Not x _ => chkE C a x
      | _ => false) = true := h
    split at h
    · exact de_not (sndE ok w a _ h)
    · cases h
  | and a b =>
    have h : (match (generalizing := false) e with
      | .BoolOp .And (x :: y :: r) p => chkE C a x && chkE C b (.BoolOp .And (y :: r) p)
      | _ => false) = true := h
    split at h
    · obtain ⟨h1, h2⟩ := ba2 h
      exact de_and (sndE ok w a _ h1) (sndE ok w b _ h2)
    · cases h
  | or a b =>
    have h : (match (generalizing := false) e with
      | .BoolOp .Or (x :: y :: r) p => chkE C a x && chkE C b (.BoolOp .Or (y :: r) p)
      | _ => false) = true := h
    split at h
    · obtain ⟨h1, h2⟩ := ba2 h
      exact de_or (sndE ok w a _ h1) (sndE ok w b _ h2)
    · cases h
  | one a =>
    have h : (match (generalizing := false) e with
      | .BoolOp _ [x] _ => chkE C a x
      | _ => false) = true := h
    split at h
    · exact de_one (sndE ok w a _ h)
    · cases h
  | ite t a b =>
    have h : (match (generalizing := false) e with
      | .IfExp c x y _ => chkT C t c && (chkE C a x && chkE C b y)
      | _ => false) = true := h
    split at h
    · obtain ⟨h1, h⟩ := ba2 h
      obtain ⟨h2, h3⟩ := ba2 h
      exact de_ifExp (sndT ok w t _ h1) (sndE ok w a _ h2) (sndE ok w b _ h3)
    · cases h
  | isN a =>
    have h : (match (generalizing := false) e with
      | .Compare x [.Is] [.Constant .none _ _] _ => chkE C a x
      | _ => false) = true := h
    split at h
    · exact de_isN (sndE ok w a _ h)
    · cases h
  | notN a =>
    have h : (match (generalizing := false) e with
      | .Compare x [.IsNot] [.Constant .none _ _] _ => chkE C a x
      | _ => false) = true := h
    split at h
    · exact de_notN (sndE ok w a _ h)
    · cases h
  | tup es =>
    have h : (match (generalizing := false) e with
      | .Tuple xs _ _ => chkL C es xs
      | _ => false) = true := h
    split at h
    · exact de_tup (sndL ok w es _ h)
    · cases h
  | ix a b =>
    have h : (match (generalizing := false) e with
      | .Subscript x i _ => chkE C a x && (chkE C b i && noSliceB i)
      | _ => false) = true := h
    split at h
    · obtain ⟨h1, h⟩ := ba2 h
      obtain ⟨h2, h3⟩ := ba2 h
      exact de_ix (sndE ok w a _ h1) (sndE ok w b _ h2) (ix_ok h3)
    · cases h
  | oIx k b =>
    have h : (match (generalizing := false) e with
      | .Subscript (.Name x _) i _ => varB C k x && (chkE C b i && noSliceB i)
      | _ => false) = true := h
    split at h
    · obtain ⟨h1, h⟩ := ba2 h
      obtain ⟨h2, h3⟩ := ba2 h
      exact de_oIx (var_ok ok h1) (sndE ok w b _ h2) (ix_ok h3)
    · cases h
  | cut a lo hi =>
    have h : (match (generalizing := false) e with
      | .Subscript x (.Slice l hh none _) _ => chkE C a x && (chkP C lo l && chkP C hi hh)
      | _ => false) = true := h
    split at h
    · obtain ⟨h1, h⟩ := ba2 h
      obtain ⟨h2, h3⟩ := ba2 h
      exact de_cut (sndE ok w a _ h1) (sndP ok w lo _ h2) (sndP ok w hi _ h3)
    · cases h
  | rev a =>
    have h : (match (generalizing := false) e with
      | .Subscript x (.Slice none none (some (.UnaryOp .USub (.Constant (.int i) _ _) _)) _) _ => decide (i = 1) && chkE C a x
      | _ => false) = true := h
    split at h
    · obtain ⟨h1, h2⟩ := ba2 h
      cases of_decide_eq_true h1
      exact de_rev (sndE ok w a _ h2)
    · cases h
  | bi b es =>
    have h : (match (generalizing := false) e with
      | .Call (.Name x _) (y :: ys) [] _ => decide (x = b.name) && (freeB C b.name && (chkL C es (y :: ys) && (y :: ys).all plainB))
      | _ => false) = true := h
    split at h
    · obtain ⟨h1, h⟩ := ba2 h
      obtain ⟨h2, h⟩ := ba2 h
      obtain ⟨h3, h4⟩ := ba2 h
      obtain ⟨h4, h5⟩ := ba2 (show (plainB _ && List.all _ plainB) = true from h4)
      obtain ⟨f1, f2, f3, f4⟩ := free_ok ok h2
      rw [of_decide_eq_true h1]
      exact bi_ok b ok.calm f1 f2 (sndL ok w es _ h3) h4 h5
    · cases h
  | isi n a =>
    have h : (match (generalizing := false) e with
      | .Call (.Name x _) [y, .Name z _] [] _ => decide (x = "isinstance") && (freeB C "isinstance" && (freeB C z && (decide (bootBuiltins z = some (.type n)) && (chkE C a y && plainB y))))
      | _ => false) = true := h
    split at h
    · obtain ⟨h1, h⟩ := ba2 h
      obtain ⟨h2, h⟩ := ba2 h
      obtain ⟨h3, h⟩ := ba2 h
      obtain ⟨h4, h⟩ := ba2 h
      obtain ⟨h5, h6⟩ := ba2 h
      obtain ⟨f1, f2, f3, f4⟩ := free_ok ok h2
      obtain ⟨e1, e2, e3, e4⟩ := free_ok ok h3
      rw [of_decide_eq_true h1]
      exact de_isi f1 f2 (sndE ok w a _ h5) e1 e2 (of_decide_eq_true h4) e4 e3 h6
    · cases h
  | oLen i =>
    have h : (match (generalizing := false) e with
      | .Call (.Name x _) [.Name z _] [] _ => decide (x = "len") && (freeB C "len" && varB C i z)
      | _ => false) = true := h
    split at h
    · obtain ⟨h1, h⟩ := ba2 h
      obtain ⟨h2, h3⟩ := ba2 h
      obtain ⟨f1, f2, f3, f4⟩ := free_ok ok h2
      rw [of_decide_eq_true h1]
      exact de_oLen (var_ok ok h3) f1 f2 (by decide +kernel) (by decide) (by decide) rfl
    · cases h
  | oPop i =>
    have h : (match (generalizing := false) e with
      | .Call (.Attribute (.Name z _) nm ap) [] [] pos => decide (nm = "pop") && (varB C i z && (ap.endLine == pos.line))
      | _ => false) = true := h
    split at h
    · obtain ⟨h1, h⟩ := ba2 h
      obtain ⟨h2, h3⟩ := ba2 h
      rw [of_decide_eq_true h1]
      exact de_oPop (var_ok ok h2) rfl h3
    · cases h
  | oPopAt i b =>
    have h : (match (generalizing := false) e with
      | .Call (.Attribute (.Name z _) nm ap) [y] [] pos => decide (nm = "pop") && (varB C i z && ((ap.endLine == pos.line) && (chkE C b y && plainB y)))
      | _ => false) = true := h
    split at h
    · obtain ⟨h1, h⟩ := ba2 h
      obtain ⟨h2, h⟩ := ba2 h
      obtain ⟨h3, h⟩ := ba2 h
      obtain ⟨h4, h5⟩ := ba2 h
      rw [of_decide_eq_true h1]
      refine de_oPopAt (var_ok ok h2) (sndE ok w b _ h4) rfl h3 ?_ (star_ok h5 _ _)
      rw [star_ok h5]
      rfl
    · cases h
  | oIn n i a =>
    have h : (match (generalizing := false) e with
      | .Compare y [o] [.Name z _] _ => decide (o = if n then .NotIn else .In) && (varB C i z && chkE C a y)
      | _ => false) = true := h
    split at h
    · obtain ⟨h1, h⟩ := ba2 h
      obtain ⟨h2, h3⟩ := ba2 h
      rw [of_decide_eq_true h1]
      cases n with
      | true => exact de_oNotIn ok.un (sndE ok w a _ h3) (var_ok ok h2)
      | false => exact de_oIn ok.un (sndE ok w a _ h3) (var_ok ok h2)
    · cases h
  | call j as =>
    have h : (match (generalizing := false) e with
      | .Call (.Name x _) (y :: ys) [] _ => (match (generalizing := false) C.fns[j]? with
        | some g => decide (g.name = x) && (glB C x && (decide (g.n = (y :: ys).length) && (chkA C as (y :: ys) && ((y :: ys).all plainB && decide (agO (denA [] [] as)).Nodup))))
        | none => false)
      | _ => false) = true := h
    split at h
    · split at h
      · rename_i g hg
        obtain ⟨h1, h⟩ := ba2 h
        obtain ⟨h2, h⟩ := ba2 h
        obtain ⟨h3, h⟩ := ba2 h
        obtain ⟨h4, h⟩ := ba2 h
        obtain ⟨h5, h6⟩ := ba2 h
        obtain ⟨h5, h7⟩ := ba2 (show (plainB _ && List.all _ plainB) = true from h5)
        obtain ⟨k, f, fd, ps, q1, q2, q3, q4, q5⟩ := ok.gf j g hg
        obtain ⟨g1, g2⟩ := gl_ok ok h2
        rw [of_decide_eq_true h1] at q1
        have hn : (agO (denA fs gs as)).Nodup := by rw [agO_den]; exact of_decide_eq_true h6
        exact de_call q2 q3 g1 q1 q4 q5 w.pa (sndA ok w as _ h4) hn (by rw [chkA_len as _ h4]; exact (of_decide_eq_true h3).symm) g2 (star_ok h5 _ _) (starAny_ok h7)
      · cases h
    · cases h
  | callB i j as =>
    have h : (match (generalizing := false) e with
      | .Call (.Name x _) (y :: ys) [] _ => (match (generalizing := false) C.fns[j]? with
        | some g => decide (g.name = x) && (glB C x && (decide (g.n = (y :: ys).length) && (chkB C as (y :: ys) && ((y :: ys).all plainB && bgI i (denB [] [] as)))))
        | none => false)
      | _ => false) = true := h
    split at h
    · split at h
      · rename_i g hg
        obtain ⟨h1, h⟩ := ba2 h
        obtain ⟨h2, h⟩ := ba2 h
        obtain ⟨h3, h⟩ := ba2 h
        obtain ⟨h4, h⟩ := ba2 h
        obtain ⟨h5, h6⟩ := ba2 h
        obtain ⟨h5, h7⟩ := ba2 (show (plainB _ && List.all _ plainB) = true from h5)
        obtain ⟨k, f, fd, ps, q1, q2, q3, q4, q5⟩ := ok.gf j g hg
        obtain ⟨g1, g2⟩ := gl_ok ok h2
        rw [of_decide_eq_true h1] at q1
        exact de_callB q2 q3 g1 q1 q4 q5 w.pa (sndB ok w as _ h4) (by rw [bgI_den]; exact h6) (by rw [chkB_len as _ h4]; exact (of_decide_eq_true h3).symm) g2 (star_ok h5 _ _) (starAny_ok h7)
      · cases h
    · cases h
  | ml m => exact de_m (sndM ok w m e h)
  | _ => cases h
theorem sndT {C : Ctx} {fs : List Fn} {gs : List D} {X : Cx} {W : WX} (ok : CtxOk C fs gs X) (w : WOk X W) (r : Rx) (e : Expr) (h : chkT C r e = true) : DT X C.pl W e (denT fs gs r) := by
  cases r with
  | not a =>
    have h : (match (generalizing := false) e with
      | .UnaryOp .Not x _ => chkT C a x
      | _ => false) = true := h
    split at h
    · exact dt_not (sndT ok w a _ h)
    · cases h
  | and a b =>
    have h : (match (generalizing := false) e with
      | .BoolOp .And (x :: y :: r) p => chkT C a x && chkW C b (.BoolOp .And (y :: r) p)
      | _ => false) = true := h
    split at h
    · obtain ⟨h1, h2⟩ := ba2 h
      exact dw_dt (dw_and (sndT ok w a _ h1) (sndW ok w b _ h2))
    · cases h
  | or a b =>
    have h : (match (generalizing := false) e with
      | .BoolOp .Or (x :: y :: r) p => chkT C a x && chkW C b (.BoolOp .Or (y :: r) p)
      | _ => false) = true := h
    split at h
    · obtain ⟨h1, h2⟩ := ba2 h
      exact dw_dt (dw_or (sndT ok w a _ h1) (sndW ok w b _ h2))
    · cases h
  | cmp o a b =>
    have h : (match (generalizing := false) e with
      | .Compare l [o'] [r] _ => decide (o = o') && ((cmpOf o).isSome && (chkE C a l && (chkE C b r && noSetB r)))
      | _ => false) = true := h
    split at h
    · obtain ⟨h1, h⟩ := ba2 h
      obtain ⟨h2, h⟩ := ba2 h
      obtain ⟨h3, h⟩ := ba2 h
      obtain ⟨h4, h5⟩ := ba2 h
      cases of_decide_eq_true h1
      exact dt_cmp (cmpOf_ok ok.un (getD_op h2)) (sndE ok w a _ h3) (sndE ok w b _ h4) (mark_ok h5 _)
    · cases h
  | chain o o' a b c =>
    have h : (match (generalizing := false) e with
      | .Compare l [p, p'] [m, r] _ => decide (o = p) && (decide (o' = p') && ((cmpOf o).isSome && ((cmpOf o').isSome && (chkE C a l && (chkE C b m && (chkE C c r && noSetB r))))))
      | _ => false) = true := h
    split at h
    · obtain ⟨h1, h⟩ := ba2 h
      obtain ⟨h1', h⟩ := ba2 h
      obtain ⟨h2, h⟩ := ba2 h
      obtain ⟨h2', h⟩ := ba2 h
      obtain ⟨h3, h⟩ := ba2 h
      obtain ⟨h4, h⟩ := ba2 h
      obtain ⟨h5, h6⟩ := ba2 h
      cases of_decide_eq_true h1
      cases of_decide_eq_true h1'
      exact dt_chain (cmpOf_ok ok.un (getD_op h2)) (cmpOf_ok ok.un (getD_op h2')) (sndE ok w a _ h3) (sndE ok w b _ h4) (sndE ok w c _ h5) (last_ok h6)
    · cases h
  | isN a =>
    have h : (match (generalizing := false) e with
      | .Compare x [.Is] [.Constant .none _ _] _ => chkE C a x
      | _ => false) = true := h
    split at h
    · exact dt_isN (sndE ok w a _ h)
    · cases h
  | notN a =>
    have h : (match (generalizing := false) e with
      | .Compare x [.IsNot] [.Constant .none _ _] _ => chkE C a x
      | _ => false) = true := h
    split at h
    · exact dt_notN (sndE ok w a _ h)
    · cases h
  | oIn n i a =>
    have h : (match (generalizing := false) e with
      | .Compare y [o] [.Name z _] _ => decide (o = if n then .NotIn else .In) && (varB C i z && chkE C a y)
      | _ => false) = true := h
    split at h
    · obtain ⟨h1, h⟩ := ba2 h
      obtain ⟨h2, h3⟩ := ba2 h
      rw [of_decide_eq_true h1]
      cases n with
      | true => exact dt_oNotIn ok.un (sndE ok w a _ h3) (var_ok ok h2)
      | false => exact dt_oIn ok.un (sndE ok w a _ h3) (var_ok ok h2)
    · cases h
  | v i =>
    cases e with
    | Name x p => exact dt_val (de_var (var_ok ok h)) (test_ok rfl _)
    | _ => cases h
  | ix a b =>
    have h : (match (generalizing := false) e with
      | .Subscript x i _ => chkE C a x && (chkE C b i && noSliceB i)
      | _ => false) = true := h
    split at h
    · obtain ⟨h1, h⟩ := ba2 h
      obtain ⟨h2, h3⟩ := ba2 h
      exact dt_val (de_ix (sndE ok w a _ h1) (sndE ok w b _ h2) (ix_ok h3)) (test_ok rfl _)
    · cases h
  | oIx k b =>
    have h : (match (generalizing := false) e with
      | .Subscript (.Name x _) i _ => varB C k x && (chkE C b i && noSliceB i)
      | _ => false) = true := h
    split at h
    · obtain ⟨h1, h⟩ := ba2 h
      obtain ⟨h2, h3⟩ := ba2 h
      exact dt_val (de_oIx (var_ok ok h1) (sndE ok w b _ h2) (ix_ok h3)) (test_ok rfl _)
    · cases h
  | bi b es =>
    have h : (match (generalizing := false) e with
      | .Call (.Name x _) (y :: ys) [] _ => decide (x = b.name) && (freeB C b.name && (chkL C es (y :: ys) && (y :: ys).all plainB))
      | _ => false) = true := h
    split at h
    · obtain ⟨h1, h⟩ := ba2 h
      obtain ⟨h2, h⟩ := ba2 h
      obtain ⟨h3, h4⟩ := ba2 h
      obtain ⟨h4, h5⟩ := ba2 (show (plainB _ && List.all _ plainB) = true from h4)
      obtain ⟨f1, f2, f3, f4⟩ := free_ok ok h2
      rw [of_decide_eq_true h1]
      exact dt_val (bi_ok b ok.calm f1 f2 (sndL ok w es _ h3) h4 h5) (test_ok rfl _)
    · cases h
  | isi n a =>
    have h : (match (generalizing := false) e with
      | .Call (.Name x _) [y, .Name z _] [] _ => decide (x = "isinstance") && (freeB C "isinstance" && (freeB C z && (decide (bootBuiltins z = some (.type n)) && (chkE C a y && plainB y))))
      | _ => false) = true := h
    split at h
    · obtain ⟨h1, h⟩ := ba2 h
      obtain ⟨h2, h⟩ := ba2 h
      obtain ⟨h3, h⟩ := ba2 h
      obtain ⟨h4, h⟩ := ba2 h
      obtain ⟨h5, h6⟩ := ba2 h
      obtain ⟨f1, f2, f3, f4⟩ := free_ok ok h2
      obtain ⟨e1, e2, e3, e4⟩ := free_ok ok h3
      rw [of_decide_eq_true h1]
      exact dt_val (de_isi f1 f2 (sndE ok w a _ h5) e1 e2 (of_decide_eq_true h4) e4 e3 h6) (test_ok rfl _)
    · cases h
  | call j as =>
    have h : (match (generalizing := false) e with
      | .Call (.Name x _) (y :: ys) [] _ => (match (generalizing := false) C.fns[j]? with
        | some g => decide (g.name = x) && (glB C x && (decide (g.n = (y :: ys).length) && (chkA C as (y :: ys) && ((y :: ys).all plainB && decide (agO (denA [] [] as)).Nodup))))
        | none => false)
      | _ => false) = true := h
    split at h
    · split at h
      · rename_i g hg
        obtain ⟨h1, h⟩ := ba2 h
        obtain ⟨h2, h⟩ := ba2 h
        obtain ⟨h3, h⟩ := ba2 h
        obtain ⟨h4, h⟩ := ba2 h
        obtain ⟨h5, h6⟩ := ba2 h
        obtain ⟨h5, h7⟩ := ba2 (show (plainB _ && List.all _ plainB) = true from h5)
        obtain ⟨k, f, fd, ps, q1, q2, q3, q4, q5⟩ := ok.gf j g hg
        obtain ⟨g1, g2⟩ := gl_ok ok h2
        rw [of_decide_eq_true h1] at q1
        have hn : (agO (denA fs gs as)).Nodup := by rw [agO_den]; exact of_decide_eq_true h6
        exact dt_val (de_call q2 q3 g1 q1 q4 q5 w.pa (sndA ok w as _ h4) hn (by rw [chkA_len as _ h4]; exact (of_decide_eq_true h3).symm) g2 (star_ok h5 _ _) (starAny_ok h7)) (test_ok rfl _)
      · cases h
    · cases h
  | _ => cases h
theorem sndW {C : Ctx} {fs : List Fn} {gs : List D} {X : Cx} {W : WX} (ok : CtxOk C fs gs X) (w : WOk X W) (r : Rx) (e : Expr) (h : chkW C r e = true) : DW X C.pl W e (denT fs gs r) := by
  cases r with
  | and a b =>
    have h : (match (generalizing := false) e with
      | .BoolOp .And (x :: y :: r) p => chkT C a x && chkW C b (.BoolOp .And (y :: r) p)
      | _ => false) = true := h
    split at h
    · obtain ⟨h1, h2⟩ := ba2 h
      exact dw_and (sndT ok w a _ h1) (sndW ok w b _ h2)
    · cases h
  | or a b =>
    have h : (match (generalizing := false) e with
      | .BoolOp .Or (x :: y :: r) p => chkT C a x && chkW C b (.BoolOp .Or (y :: r) p)
      | _ => false) = true := h
    split at h
    · obtain ⟨h1, h2⟩ := ba2 h
      exact dw_or (sndT ok w a _ h1) (sndW ok w b _ h2)
    · cases h
  | one a =>
    have h : (match (generalizing := false) e with
      | .BoolOp _ [x] _ => chkT C a x
      | _ => false) = true := h
    split at h
    · exact dw_single _ (sndT ok w a _ h)
    · cases h
  | _ => cases h
theorem sndL {C : Ctx} {fs : List Fn} {gs : List D} {X : Cx} {W : WX} (ok : CtxOk C fs gs X) (w : WOk X W) (r : Rx) (es : List Expr) (h : chkL C r es = true) : DAs X C.pl W es (denM fs gs r) := by
  cases r with
  | nil =>
    cases es with
    | nil => exact das_nil
    | cons e es => cases h
  | cons a r =>
    cases es with
    | nil => cases h
    | cons e es =>
      obtain ⟨h1, h⟩ := ba2 h
      obtain ⟨h2, h3⟩ := ba2 h
      exact das_cons (sndE ok w a e h1) (sndL ok w r es h3) (star_ok h2 _ _)
  | _ => cases h
theorem sndA {C : Ctx} {fs : List Fn} {gs : List D} {X : Cx} {W : WX} (ok : CtxOk C fs gs X) (w : WOk X W) (r : Rx) (es : List Expr) (h : chkA C r es = true) : DA X C.pl W es (denA fs gs r) := by
  cases r with
  | nil =>
    cases es with
    | nil => exact da_nil
    | cons e es => cases h
  | cons a r =>
    cases es with
    | nil => cases h
    | cons e es =>
      obtain ⟨h1, h⟩ := ba2 h
      obtain ⟨h2, h3⟩ := ba2 h
      exact da_e (sndE ok w a e h1) (sndA ok w r es h3) (star_ok h2 _ _)
  | consO i r =>
    cases es with
    | nil => cases h
    | cons e es =>
      cases e with
      | Name x p =>
        obtain ⟨h1, h2⟩ := ba2 h
        exact da_o (var_ok ok h1) (sndA ok w r es h2) rfl
      | _ => cases h
  | _ => cases h
theorem sndB {C : Ctx} {fs : List Fn} {gs : List D} {X : Cx} {W : WX} (ok : CtxOk C fs gs X) (w : WOk X W) (r : Rx) (es : List Expr) (h : chkB C r es = true) : DB X C.pl W es (denB fs gs r) := by
  cases r with
  | nil =>
    cases es with
    | nil => exact db_nil
    | cons e es => cases h
  | cons a r =>
    cases es with
    | nil => cases h
    | cons e es =>
      obtain ⟨h1, h⟩ := ba2 h
      obtain ⟨h2, h3⟩ := ba2 h
      exact db_e (sndE ok w a e h1) (sndB ok w r es h3) (star_ok h2 _ _)
  | consB i r =>
    cases es with
    | nil => cases h
    | cons e es =>
      cases e with
      | Name x p =>
        obtain ⟨h1, h2⟩ := ba2 h
        exact db_b (var_ok ok h1) (sndB ok w r es h2) rfl
      | _ => cases h
  | _ => cases h
theorem sndP {C : Ctx} {fs : List Fn} {gs : List D} {X : Cx} {W : WX} (ok : CtxOk C fs gs X) (w : WOk X W) (r : Rx) (e : Option Expr) (h : chkP C r e = true) : DO X C.pl W e (denP fs gs r) := by
  cases r with
  | noP =>
    cases e with
    | none => exact do_none
    | some e => cases h
  | one a =>
    cases e with
    | none => cases h
    | some e => exact do_some (sndE ok w a e h)
  | _ => cases h
theorem sndM {C : Ctx} {fs : List Fn} {gs : List D} {X : Cx} {W : WX} (ok : CtxOk C fs gs X) (w : WOk X W) (r : Rx) (e : Expr) (h : chkM C r e = true) : DM X C.pl W e (denM fs gs r) := by
  cases r with
  | lst es =>
    have h : (match (generalizing := false) e with
      | .List xs _ => chkL C es xs
      | _ => false) = true := h
    split at h
    · exact dm_lst (sndL ok w es _ h)
    · cases h
  | rep m b =>
    have h : (match (generalizing := false) e with
      | .BinOp x .Mult y _ => chkM C m x && chkE C b y
      | _ => false) = true := h
    split at h
    · obtain ⟨h1, h2⟩ := ba2 h
      exact dm_rep (sndM ok w m _ h1) (sndE ok w b _ h2)
    · cases h
  | mlist a =>
    have h : (match (generalizing := false) e with
      | .Call (.Name x _) [y] [] _ => decide (x = "list") && (freeB C "list" && (chkE C a y && plainB y))
      | _ => false) = true := h
    split at h
    · obtain ⟨h1, h⟩ := ba2 h
      obtain ⟨h2, h⟩ := ba2 h
      obtain ⟨h3, h4⟩ := ba2 h
      obtain ⟨f1, f2, f3, f4⟩ := free_ok ok h2
      rw [of_decide_eq_true h1]
      exact dm_list f1 f2 (by decide +kernel) (sndE ok w a _ h3) (by decide) (by decide) (star_ok h4 _ _)
    · cases h
  | msorted a =>
    have h : (match (generalizing := false) e with
      | .Call (.Name x _) [y] [] _ => decide (x = "sorted") && (freeB C "sorted" && (chkE C a y && plainB y))
      | _ => false) = true := h
    split at h
    · obtain ⟨h1, h⟩ := ba2 h
      obtain ⟨h2, h⟩ := ba2 h
      obtain ⟨h3, h4⟩ := ba2 h
      obtain ⟨f1, f2, f3, f4⟩ := free_ok ok h2
      rw [of_decide_eq_true h1]
      exact dm_sorted f1 f2 (sndE ok w a _ h3) (star_ok h4 _ _)
    · cases h
  | lc it own tg t a =>
    have h : (match (generalizing := false) e with
      | .ListComp elt [⟨tgE, iter, ifs, as⟩] scope _ => decide (as = 0) && (chkI C it tgE iter && (blkB C scope own && ((tgI tg).all (fun i => own.elem i) && (tgB (inner C scope) tgE tg && (chkTs (inner C scope) t ifs && (chkE (inner C scope) a elt && noSetB iter))))))
      | _ => false) = true := h
    split at h
    · obtain ⟨h0, h⟩ := ba2 h
      obtain ⟨h1, h⟩ := ba2 h
      obtain ⟨h2, h⟩ := ba2 h
      obtain ⟨h3, h⟩ := ba2 h
      obtain ⟨h4, h⟩ := ba2 h
      obtain ⟨h5, h⟩ := ba2 h
      obtain ⟨h6, h7⟩ := ba2 h
      cases of_decide_eq_true h0
      have key := fun pos : Pos => dm_lc (pos := pos) (X := X) (pl := C.pl) (W := W) ok.calm (by rw [ok.N]; exact ok.nd) (sndI ok w it _ _ h1) (blk_ok ok h2) (fun i hi => by rw [ownOf_snd]; simpa using List.all_eq_true.mp h3 i hi)
        (fun s H L cl fp => tg_ok (inner_ok ok _ s H L cl fp) h4) (fun s H L cl fp => sndTs (inner_ok ok _ s H L cl fp) (w0_ok _) t _ h5) (fun s H L cl fp => sndE (inner_ok ok _ s H L cl fp) (w0_ok _) a _ h6) (fun x => fold_ok h7 _ x)
      rw [ownOf_snd] at key
      exact key _
    · cases h
  | call j as =>
    have h : (match (generalizing := false) e with
      | .Call (.Name x _) (y :: ys) [] _ => (match (generalizing := false) C.fns[j]? with
        | some g => decide (g.name = x) && (glB C x && (decide (g.n = (y :: ys).length) && (chkA C as (y :: ys) && ((y :: ys).all plainB && decide (agO (denA [] [] as)).Nodup))))
        | none => false)
      | _ => false) = true := h
    split at h
    · split at h
      · rename_i g hg
        obtain ⟨h1, h⟩ := ba2 h
        obtain ⟨h2, h⟩ := ba2 h
        obtain ⟨h3, h⟩ := ba2 h
        obtain ⟨h4, h⟩ := ba2 h
        obtain ⟨h5, h6⟩ := ba2 h
        obtain ⟨h5, h7⟩ := ba2 (show (plainB _ && List.all _ plainB) = true from h5)
        obtain ⟨k, f, fd, ps, q1, q2, q3, q4, q5⟩ := ok.gf j g hg
        obtain ⟨g1, g2⟩ := gl_ok ok h2
        rw [of_decide_eq_true h1] at q1
        have hn : (agO (denA fs gs as)).Nodup := by rw [agO_den]; exact of_decide_eq_true h6
        exact dm_call q2 q3 g1 q1 q4 q5 w.pa (sndA ok w as _ h4) hn (by rw [chkA_len as _ h4]; exact (of_decide_eq_true h3).symm) g2 (star_ok h5 _ _) (starAny_ok h7)
      · cases h
    · cases h
  | _ => cases h
theorem sndTs {C : Ctx} {fs : List Fn} {gs : List D} {X : Cx} {W : WX} (ok : CtxOk C fs gs X) (w : WOk X W) (r : Rx) (es : List Expr) (h : chkTs C r es = true) : DTs X C.pl W es (denT fs gs r) := by
  cases r with
  | tyes =>
    cases es with
    | nil => exact dts_nil
    | cons e es => cases h
  | one a =>
    cases es with
    | nil => cases h
    | cons e es =>
      cases es with
      | nil => exact dts_one (sndT ok w a e h)
      | cons e2 es => cases h
  | _ => cases h
theorem sndI {C : Ctx} {fs : List Fn} {gs : List D} {X : Cx} {W : WX} (ok : CtxOk C fs gs X) (w : WOk X W) (r : Rx) (tg e : Expr) (h : chkI C r tg e = true) : DI X C.pl W tg e (denI fs gs r) := by
  cases r with
  | one a => exact di_val (sndE ok w a e h)
  | rng1 a =>
    have h : (match (generalizing := false) e with
      | .Call (.Name x _) [y] [] _ => decide (x = "range") && (freeB C "range" && (chkE C a y && plainB y))
      | _ => false) = true := h
    split at h
    · obtain ⟨h1, h⟩ := ba2 h
      obtain ⟨h2, h⟩ := ba2 h
      obtain ⟨h3, h4⟩ := ba2 h
      obtain ⟨f1, f2, f3, f4⟩ := free_ok ok h2
      rw [of_decide_eq_true h1]
      exact di_range1 f1 f2 (sndE ok w a _ h3) (star_ok h4 _ _)
    · cases h
  | rng2 a b =>
    have h : (match (generalizing := false) e with
      | .Call (.Name x _) [y, z] [] _ => decide (x = "range") && (freeB C "range" && (chkE C a y && (chkE C b z && (plainB y && plainB z))))
      | _ => false) = true := h
    split at h
    · obtain ⟨h1, h⟩ := ba2 h
      obtain ⟨h2, h⟩ := ba2 h
      obtain ⟨h3, h⟩ := ba2 h
      obtain ⟨h4, h⟩ := ba2 h
      obtain ⟨h5, h6⟩ := ba2 h
      obtain ⟨f1, f2, f3, f4⟩ := free_ok ok h2
      rw [of_decide_eq_true h1]
      exact di_range2 f1 f2 (sndE ok w a _ h3) (sndE ok w b _ h4) (by rw [star_ok h5, star_ok h6]; rfl) (star_ok h6 _ _)
    · cases h
  | zip a b =>
    have h : (match (generalizing := false) tg with
      | .Tuple _ _ _ => (match (generalizing := false) e with
        | .Call (.Name x _) [y, z] [] _ => decide (x = "zip") && (freeB C "zip" && (chkE C a y && (chkE C b z && (plainB y && plainB z))))
        | _ => false)
      | _ => false) = true := h
    split at h
    · split at h
      · obtain ⟨h1, h⟩ := ba2 h
        obtain ⟨h2, h⟩ := ba2 h
        obtain ⟨h3, h⟩ := ba2 h
        obtain ⟨h4, h⟩ := ba2 h
        obtain ⟨h5, h6⟩ := ba2 h
        obtain ⟨f1, f2, f3, f4⟩ := free_ok ok h2
        rw [of_decide_eq_true h1]
        exact di_zip f1 f2 (sndE ok w a _ h3) (sndE ok w b _ h4) (star_ok h5 _ _) (star_ok h6 _ _) (starAny_ok (by simp [h6]))
      · cases h
    · cases h
  | _ => cases h
end
end DL
/-! DLK: statements, defs. -/
namespace DL
open PySem PySem.Spec PyProof.Rows L2

theorem notT {b : Bool} (h : (!b) = true) : b = false := by cases b <;> first | rfl | cases h
theorem swSole_ok {e : Expr} (h : noCompB e = true) (t : Expr) (l : Nat) (env : PySem.Env) : swapsWithSole [t] e l env = pure false := sw_ok h (some t) l env
theorem starredF {e : Expr} (h : plainB e = true) : (match (generalizing := false) e with | .Starred .. => true | _ => false) = false := by
  cases e <;> first | rfl | cases h
theorem sws_ok {x y : Str} {px py pt pt2 : Pos} {kt k2 : Nat} {a b : Expr} {env : PySem.Env} (hk : env.scope.kind = .function) (hx : env.scope.names.lookup x = some .local) (hy : env.scope.names.lookup y = some .local) (hxy : x ≠ y) (hl : (py.line == px.line) = true)
    (ha : plainB a = true) (hb : plainB b = true) (hf : [a, b].all (foldedForSure 8) = false) (hc : [a, b].all (constantsAlone 8) = false) :
    swappedStores [.Tuple [.Name x px, .Name y py] kt pt] (.Tuple [a, b] k2 pt2) env = pure (some [x, y]) := by
  have kx : env.kindOf x = some .local := hx
  have ky : env.kindOf y = some .local := hy
  have kb : env.blockKind = .function := by unfold Env.blockKind; rw [hk]; rfl
  have h2 : ([x, y] : List Str).eraseDups = [x, y] := by
    rw [List.eraseDups_cons]
    have : ([y] : List Str).filter (fun b => !b == x) = [y] := by
      rw [List.filter_cons]
      have : (!y == x) = true := by simpa using fun z => hxy z.symm
      rw [if_pos this, List.filter_nil]
    rw [this, List.eraseDups_cons]
    simp
  have ee : (NameKind.local == NameKind.local) = true := rfl
  have hnm : ∀ (f : Expr → Option Str), f (.Name x px) = some x → f (.Name y py) = some y → [Expr.Name x px, .Name y py].filterMap f = [x, y] := fun f h1 h2 => by
    rw [List.filterMap_cons, h1, List.filterMap_cons, h2]
    rfl
  unfold swappedStores
  dsimp only
  rw [hnm _ (by simp [kx, Expr.pos]) (by simp [ky, Expr.pos]; simpa using hl)]
  refine (if_neg ?_).trans ((if_neg ?_).trans ((if_neg ?_).trans ((if_neg ?_).trans ((if_neg ?_).trans ?_))))
  · rw [kb]
    exact Bool.false_ne_true
  · intro z
    rcases Bool.or_eq_true_iff.mp z with z | z
    · exact Bool.noConfusion ((starredF ha).symm.trans z)
    · rcases Bool.or_eq_true_iff.mp z with z | z
      · exact Bool.noConfusion ((starredF hb).symm.trans z)
      · cases z
  · rw [h2]
    exact Bool.false_ne_true
  · rw [hf]
    exact Bool.false_ne_true
  · rw [hc]
    exact Bool.false_ne_true
  · rfl
section
variable {C : Ctx} {fs : List Fn} {gs : List D} {X : Cx} {W : WX}
theorem set_ok (ok : CtxOk C fs gs X) {i : Nat} {x : Str} (h : setB C i x = true) : X.N[i]? = some x ∧ Loc X.env.scope x ∧ i ∉ C.pl ∧ (X.fn x = true ∨ X.env.scope.names.lookup x = some .local) := by
  obtain ⟨h1, h⟩ := ba2 h
  obtain ⟨h2, h⟩ := ba2 h
  obtain ⟨h3, h4⟩ := ba2 h
  exact ⟨by rw [ok.N]; exact of_decide_eq_true h1, loc_ok ok h2, by unfold plB at h3; simpa using h3, ff_ok ok h4⟩
theorem swLc_ok (ok : CtxOk C fs gs X) {x : Str} {scope : Scope} {py pos : Pos} {elt : Expr} {g : List Comprehension} {l : Nat} (h : swLc C x scope py pos = true) :
    swapsWith (.ListComp elt g scope pos) (some (.Name x py)) l X.env = pure true ∧ X.env.scope.names.lookup x = some .local := by
  obtain ⟨h1, h⟩ := ba2 h
  obtain ⟨h2, h⟩ := ba2 h
  obtain ⟨h3, h4⟩ := ba2 h
  have hx := isK_ok ok h2
  refine ⟨sw_true (by rw [ok.sc]; exact of_decide_eq_true h1) hx h3 (by simpa using h4), hx⟩
theorem swC_ok (ok : CtxOk C fs gs X) {x : Str} {e : Expr} {p : Pos} {l : Nat} (h : (noCompB e || isK C x .cell) = true) : swapsWith e (some (.Name x p)) l X.env = pure false := by
  rcases Bool.or_eq_true_iff.mp h with h | h
  · exact sw_ok h _ _ _
  · have hx : X.env.kindOf x = some .cell := isK_ok ok h
    by_cases hc : noCompB e = true
    · exact sw_ok hc _ _ _
    · cases e with
      | ListComp a b c d =>
        unfold swapsWith
        simp only [hx]
        have : (some NameKind.cell == some NameKind.local) = false := rfl
        rw [this]
        simp
      | SetComp a b c d =>
        unfold swapsWith
        simp only [hx]
        have : (some NameKind.cell == some NameKind.local) = false := rfl
        rw [this]
        simp
      | DictComp a b c d e =>
        unfold swapsWith
        simp only [hx]
        have : (some NameKind.cell == some NameKind.local) = false := rfl
        rw [this]
        simp
      | _ => exact absurd rfl hc
theorem asg_side (ts : List Expr) (k : Nat) (p : Pos) (e : Expr) (hc : noCompB e = true) (ht : (match e with | .Tuple .. => false | _ => true) = true) (l : Nat) (env : PySem.Env) :
    swapsWithSole [.Tuple ts k p] e l env = pure false ∧ swappedStores [.Tuple ts k p] e env = pure none := by
  refine ⟨show swapsWith e (some (.Tuple ts k p)) l env = pure false from sw_ok hc _ _ _, ?_⟩
  cases e <;> first | rfl | cases ht
theorem sub_side (x : Str) (p2 p3 : Pos) (b : Expr) (hb : noSliceB b = true) (env : PySem.Env) (v : Value) : assign (.Subscript (.Name x p2) b p3) env v = (do
      let ov ← holding [v] (eval (.Name x p2) env)
      let iv ← holding [v, ov] (eval b env)
      standAt p3
      holding [v, ov, iv] (setItem ov iv v)
      release [v, ov, iv] []) := by
  cases b <;> first | rfl | cases hb
theorem tgPl_ok {t : Tg} (h : tgPl C t = true) : ∀ i ∈ tgI t, i ∉ C.pl := fun i hi => by
  have := List.all_eq_true.mp h i hi
  unfold plB at this
  simpa using this
theorem setLcV_snd {it t b : Rx} {tg : Tg} {own : List Nat} {i : Nat} {x : Str} {py sp : Pos} {e : Expr} (ok : CtxOk C fs gs X) (w : WOk X W) (hset : setB C i x = true) (h : (match (generalizing := false) e with
      | .ListComp elt [⟨tgE, iter, ifs, as⟩] scope pos => swLc C x scope py pos && (decide (as = 0) && (chkI C it tgE iter && (blkB C scope own && ((tgI tg).all (fun i => own.elem i) && (tgB (inner C scope) tgE tg && (chkTs (inner C scope) t ifs && (chkE (inner C scope) b elt && noSetB iter)))))))
      | _ => false) = true) : DS X C.pl W (.Assign [.Name x py] e sp) (sSet i (eM (mLc (denI fs gs it) own tg (denT fs gs t) (denE fs gs b)))) := by
  obtain ⟨s1, s2, s3, s4⟩ := set_ok ok hset
  split at h
  · obtain ⟨hs, h⟩ := ba2 h
    obtain ⟨h0, h⟩ := ba2 h
    obtain ⟨h1, h⟩ := ba2 h
    obtain ⟨h2, h⟩ := ba2 h
    obtain ⟨h3, h⟩ := ba2 h
    obtain ⟨h4, h⟩ := ba2 h
    obtain ⟨h5, h⟩ := ba2 h
    obtain ⟨h6, h7⟩ := ba2 h
    cases of_decide_eq_true h0
    have key := fun sp pos (hs : swLc C x _ py pos = true) => ds_setLcV (X := X) (pl := C.pl) (W := W) (pos := pos) (spos := sp) ok.calm (by rw [ok.N]; exact ok.nd) s1 (swLc_ok (g := []) (elt := .Constant .none 0 ⟨0, 0, 0, 0⟩) (l := 0) ok hs).2 s3 (swLc_ok ok hs).1 (sndI ok w it _ _ h1) (blk_ok ok h2) (fun i hi => by rw [ownOf_snd]; simpa using List.all_eq_true.mp h3 i hi)
      (fun s H L cl fp => tg_ok (inner_ok ok _ s H L cl fp) h4) (fun s H L cl fp => sndTs (inner_ok ok _ s H L cl fp) (w0_ok _) t _ h5) (fun s H L cl fp => sndE (inner_ok ok _ s H L cl fp) (w0_ok _) b _ h6) (fun x => fold_ok h7 _ x)
    rw [ownOf_snd] at key
    exact key _ _ hs
  · cases h
theorem setLcO_snd {it t b : Rx} {tg : Tg} {own : List Nat} {i : Nat} {x : Str} {py sp : Pos} {e : Expr} (ok : CtxOk C fs gs X) (w : WOk X W) (hset : setB C i x = true) (h : (match (generalizing := false) e with
      | .ListComp elt [⟨tgE, iter, ifs, as⟩] scope pos => swLc C x scope py pos && (decide (as = 0) && (chkI C it tgE iter && (blkB C scope own && ((tgI tg).all (fun i => own.elem i) && (tgB (inner C scope) tgE tg && (chkTs (inner C scope) t ifs && (chkE (inner C scope) b elt && noSetB iter)))))))
      | _ => false) = true) : DS X C.pl W (.Assign [.Name x py] e sp) (sSetO i (mLc (denI fs gs it) own tg (denT fs gs t) (denE fs gs b))) := by
  obtain ⟨s1, s2, s3, s4⟩ := set_ok ok hset
  split at h
  · obtain ⟨hs, h⟩ := ba2 h
    obtain ⟨h0, h⟩ := ba2 h
    obtain ⟨h1, h⟩ := ba2 h
    obtain ⟨h2, h⟩ := ba2 h
    obtain ⟨h3, h⟩ := ba2 h
    obtain ⟨h4, h⟩ := ba2 h
    obtain ⟨h5, h⟩ := ba2 h
    obtain ⟨h6, h7⟩ := ba2 h
    cases of_decide_eq_true h0
    have key := fun sp pos (hs : swLc C x _ py pos = true) => ds_setLcO (X := X) (pl := C.pl) (W := W) (pos := pos) (spos := sp) ok.calm (by rw [ok.N]; exact ok.nd) s1 (swLc_ok (g := []) (elt := .Constant .none 0 ⟨0, 0, 0, 0⟩) (l := 0) ok hs).2 s3 (swLc_ok ok hs).1 (sndI ok w it _ _ h1) (blk_ok ok h2) (fun i hi => by rw [ownOf_snd]; simpa using List.all_eq_true.mp h3 i hi)
      (fun s H L cl fp => tg_ok (inner_ok ok _ s H L cl fp) h4) (fun s H L cl fp => sndTs (inner_ok ok _ s H L cl fp) (w0_ok _) t _ h5) (fun s H L cl fp => sndE (inner_ok ok _ s H L cl fp) (w0_ok _) b _ h6) (fun x => fold_ok h7 _ x)
    rw [ownOf_snd] at key
    exact key _ _ hs
  · cases h
theorem chkL_two {es : Rx} {a b : Expr} (q : chkL C es [a, b] = true) : plainB a = true ∧ plainB b = true := by
  cases es with
  | cons a1 r1 =>
    obtain ⟨_, q⟩ := ba2 q
    obtain ⟨q1, q⟩ := ba2 q
    cases r1 with
    | cons a2 r2 =>
      obtain ⟨_, q⟩ := ba2 q
      obtain ⟨q2, q⟩ := ba2 q
      exact ⟨q1, q2⟩
    | _ => cases q
  | _ => cases q
theorem lookup_mem2 {c : Str} {b : Bool} : ∀ {l : List (Str × Bool)}, l.lookup c = some b → ∃ q ∈ l, q.1 = c ∧ q.2 = b
  | [], h => by simp at h
  | (x, y) :: l, h => by
    rw [List.lookup_cons] at h
    cases q : (c == x) with
    | true =>
      rw [q] at h
      exact ⟨(x, y), List.mem_cons_self .., (beq_iff_eq.mp q).symm, Option.some.inj h⟩
    | false =>
      rw [q] at h
      obtain ⟨z, h1, h2⟩ := lookup_mem2 h
      exact ⟨z, List.mem_cons_of_mem _ h1, h2⟩
theorem hasX_ok (ok : CtxOk C fs gs X) {c : Str} {f : Option Str} (h : hasX C c f = true) : ∃ g, GExc X.prog X.w X.K X.mg X.base g ∧ g.name = c ∧ g.fld = f ∧ Room 2 X.A := by
  obtain ⟨g, h1, h2⟩ := List.any_eq_true.mp h
  obtain ⟨h3, h4⟩ := ba2 h2
  exact ⟨g, ok.exs g h1, of_decide_eq_true h3, of_decide_eq_true h4, ok.rm (List.ne_nil_of_mem h1)⟩
theorem tr_ok (ok : CtxOk C fs gs X) (pn : List (Addr × Obj)) (xe : Value → Shared → Prop) : CtxOk C fs gs (X.tr pn xe) :=
  ⟨ok.N, ok.nd, ok.sc, ok.calm, ok.fn, ok.gf, ok.free, ok.vals, ok.un, ok.exs, ok.exm, ok.rm, ok.exi⟩
theorem sndSx (ok : CtxOk C fs gs X) {i : Nat} {n : Str} {su : Sx} {e : Expr} (h : chkSx C n su e = true) (hN : C.N[i]? = some n) (hl : isK C n .local = true) {a : Addr} {oe : Obj} {cls : Value} {d : Option Addr} {pn : List (Addr × Obj)} (hz : Zc cls d oe) (hf : ∃ vs, oe.data = .fields vs) :
    PE (X.suite a ((a, oe) :: pn)) e (tSx X.K i a cls d (suF su)) := by
  cases su with
  | c k =>
    have h : (match (generalizing := false) e with
      | .Constant k' _ _ => constB k k'
      | _ => false) = true := h
    split at h
    · obtain ⟨v, h1, h2⟩ := constB_ok (X := X.suite a ((a, oe) :: pn)) h
      exact pe_imp h1 fun σ H Q ⟨x, d', c, hs, q⟩ => by
        cases hs
        exact q v H (fun _ _ h => h) (h2 H)
    · cases h
  | f ns k =>
    have h : (match (generalizing := false) e with
      | .Attribute (.Name z _) k' _ => decide (z = n) && (decide (k' = k) && (ns.all (fun c => hasX C c (some k)) && (decide (n ≠ ("__debug__" : Str)) && decide (n ≠ ("__classdict__" : Str)))))
      | _ => false) = true := h
    split at h
    · obtain ⟨h1, h⟩ := ba2 h
      obtain ⟨h2, h⟩ := ba2 h
      obtain ⟨h3, h⟩ := ba2 h
      obtain ⟨h4, h5⟩ := ba2 h
      cases of_decide_eq_true h1
      cases of_decide_eq_true h2
      refine sx_f (fun c hc => ?_) (by rw [ok.N]; exact hN) (pe_var (X := X.suite a ((a, oe) :: pn)) (by rw [ok.N]; exact hN) (.inl (isK_ok ok hl)) (ne_ok h4) (ne_ok h5)) hz hf
      obtain ⟨g, G, e1, e2, _⟩ := hasX_ok ok (List.all_eq_true.mp h3 c (by simpa using hc))
      obtain ⟨_, _, _, _, _, _, _, _, _, T, hno⟩ := G.ini _ e2
      rw [← e1]
      exact ⟨T, hno⟩
    · cases h
  | two p q =>
    have h : (match (generalizing := false) e with
      | .Tuple [x, y] _ _ => chkSx C n p x && (chkSx C n q y && (plainB x && plainB y))
      | _ => false) = true := h
    split at h
    · obtain ⟨h1, h⟩ := ba2 h
      obtain ⟨h2, h⟩ := ba2 h
      obtain ⟨h3, h4⟩ := ba2 h
      exact sx_two (sndSx ok h1 hN hl hz hf) (sndSx ok h2 hN hl hz hf) (star_ok h3 _ _) (star_ok h4 _ _)
    · cases h
theorem clB_ok (ok : CtxOk C fs gs X) {c : Cl} {e : Expr} (h : clB C c e = true) : (∃ p, e = .Name c.name p) ∧ ClN X c := by
  cases c with
  | own c =>
    have h : (match (generalizing := false) e with
      | .Name x _ => decide (x = c) && (glB C x && (C.excs.any fun g => decide (g.name = c)))
      | _ => false) = true := h
    split at h
    · obtain ⟨h1, h⟩ := ba2 h
      obtain ⟨h2, h3⟩ := ba2 h
      obtain ⟨g, m1, m2⟩ := List.any_eq_true.mp h3
      cases of_decide_eq_true h1
      obtain ⟨hg, hd⟩ := gl_ok ok h2
      have hm : X.mg g.name = some (.ref (He.ga X.K g.name)) := (ok.exs g m1).glo
      rw [of_decide_eq_true m2] at hm
      exact ⟨⟨_, rfl⟩, clN_own hg hm hd⟩
    · cases h
  | ty n =>
    have h : (match (generalizing := false) e with
      | .Name x _ => decide (x = PySem.Str.ofString n) && (freeB C x && decide (bootBuiltins x = some (.type n)))
      | _ => false) = true := h
    split at h
    · obtain ⟨h1, h⟩ := ba2 h
      obtain ⟨h2, h3⟩ := ba2 h
      cases of_decide_eq_true h1
      obtain ⟨hg, hm, hd, hn⟩ := free_ok ok h2
      exact ⟨⟨_, rfl⟩, clN_ty hg hm (of_decide_eq_true h3) hn hd⟩
    · cases h
theorem nmB_ok {n : Str} {e : Expr} (h : nmB n e = true) : ∃ p, e = .Name n p := by
  cases e with
  | Name z p =>
    cases of_decide_eq_true (show decide (z = n) = true from h)
    exact ⟨p, rfl⟩
  | _ => cases h
theorem exi_ok (ok : CtxOk C fs gs X) {cs : List Cl} {tb : List (Str × Bool)} (h : (tb.all fun q => C.exi.elem ((q.1, cs), q.2)) = true) : ∀ q ∈ tb, IsF.ok X.K ((q.1, cs), q.2) := fun q hq => by
  have := List.all_eq_true.mp h q hq
  exact ok.exi _ (by simpa using this)
end
section
variable {C : Ctx} {fs : List Fn} {gs : List D} {X : Cx} {i : Nat} {n : Str} {a : Addr} {oe : Obj} {cls : Value} {d : Option Addr} {pn : List (Addr × Obj)}
mutual
theorem sndTx (ok : CtxOk C fs gs X) (hN : C.N[i]? = some n) (hl : isK C n .local = true) (hz : Zc cls d oe) (hf : ∃ vs, oe.data = .fields vs) (h4 : decide (n ≠ ("__debug__" : Str)) = true) (h5 : decide (n ≠ ("__classdict__" : Str)) = true) (t : Tx) (e : Expr) (h : chkTx C n t e = true) :
    PT (X.suite a ((a, oe) :: pn)) e (tTx X.K i a cls d (txF t)) := by
  have hv : ∀ p : Pos, PE (X.suite a ((a, oe) :: pn)) (.Name n p) (tVar i) := fun p => pe_var (X := X.suite a ((a, oe) :: pn)) (by rw [ok.N]; exact hN) (.inl (isK_ok ok hl)) (ne_ok h4) (ne_ok h5)
  have hN' : X.N[i]? = some n := by rw [ok.N]; exact hN
  cases t with
  | is1 c tb =>
    have h : (match (generalizing := false) e with
      | .Call (.Name x _) [z, y] [] _ => decide (x = "isinstance") && (freeB C "isinstance" && (nmB n z && (clB C c y && tb.all fun q => C.exi.elem ((q.1, [c]), q.2))))
      | _ => false) = true := h
    split at h
    · obtain ⟨g1, h⟩ := ba2 h
      obtain ⟨g2, h⟩ := ba2 h
      obtain ⟨g3, h⟩ := ba2 h
      obtain ⟨g4, g5⟩ := ba2 h
      cases of_decide_eq_true g1
      obtain ⟨hg, hm, _, _⟩ := free_ok ok g2
      obtain ⟨p, rfl⟩ := nmB_ok g3
      obtain ⟨⟨p3, rfl⟩, hc⟩ := clB_ok ok g4
      exact tx_is1 hg hm hc (exi_ok ok g5) hN' (hv p) hz hf
    · cases h
  | is2 c c2 tb =>
    have h : (match (generalizing := false) e with
      | .Call (.Name x _) [z, .Tuple [y, w] _ _] [] _ => decide (x = "isinstance") && (freeB C "isinstance" && (nmB n z && (clB C c y && (clB C c2 w && tb.all fun q => C.exi.elem ((q.1, [c, c2]), q.2)))))
      | _ => false) = true := h
    split at h
    · obtain ⟨g1, h⟩ := ba2 h
      obtain ⟨g2, h⟩ := ba2 h
      obtain ⟨g3, h⟩ := ba2 h
      obtain ⟨g4, h⟩ := ba2 h
      obtain ⟨g5, g6⟩ := ba2 h
      cases of_decide_eq_true g1
      obtain ⟨hg, hm, _, _⟩ := free_ok ok g2
      obtain ⟨p, rfl⟩ := nmB_ok g3
      obtain ⟨⟨p3, rfl⟩, hc⟩ := clB_ok ok g4
      obtain ⟨⟨p4, rfl⟩, hc2⟩ := clB_ok ok g5
      exact tx_is2 hg hm hc hc2 (exi_ok ok g6) hN' (hv p) hz hf
    · cases h
  | not t =>
    have h : (match (generalizing := false) e with
      | .UnaryOp .Not x _ => chkTx C n t x
      | _ => false) = true := h
    split at h
    · exact tx_not (sndTx ok hN hl hz hf h4 h5 t _ h)
    · cases h
  | and t u =>
    have h : (match (generalizing := false) e with
      | .BoolOp .And (x :: y :: r) p => chkTx C n t x && chkTw C n u (.BoolOp .And (y :: r) p)
      | _ => false) = true := h
    split at h
    · obtain ⟨g1, g2⟩ := ba2 h
      exact (txw_and (sndTx ok hN hl hz hf h4 h5 t _ g1) (sndTw ok hN hl hz hf h4 h5 u _ g2)).pt
    · cases h
  | one t => cases h
theorem sndTw (ok : CtxOk C fs gs X) (hN : C.N[i]? = some n) (hl : isK C n .local = true) (hz : Zc cls d oe) (hf : ∃ vs, oe.data = .fields vs) (h4 : decide (n ≠ ("__debug__" : Str)) = true) (h5 : decide (n ≠ ("__classdict__" : Str)) = true) (t : Tx) (e : Expr) (h : chkTw C n t e = true) :
    PW (X.suite a ((a, oe) :: pn)) e (tTx X.K i a cls d (txF t)) := by
  cases t with
  | one t =>
    have h : (match (generalizing := false) e with
      | .BoolOp .And [x] _ => chkTx C n t x
      | _ => false) = true := h
    split at h
    · exact txw_one (sndTx ok hN hl hz hf h4 h5 t _ h)
    · cases h
  | and t u =>
    have h : (match (generalizing := false) e with
      | .BoolOp .And (x :: y :: r) p => chkTx C n t x && chkTw C n u (.BoolOp .And (y :: r) p)
      | _ => false) = true := h
    split at h
    · obtain ⟨g1, g2⟩ := ba2 h
      exact txw_and (sndTx ok hN hl hz hf h4 h5 t _ g1) (sndTw ok hN hl hz hf h4 h5 u _ g2)
    · cases h
  | _ => cases h
end
end
mutual
theorem sndS {C : Ctx} {fs : List Fn} {gs : List D} {X : Cx} {W : WX} (ok : CtxOk C fs gs X) (w : WOk X W) (po : PassesOwn (model X.prog X.w) X.A X.env X.xe) (hs : X.stack = X.env :: X.outer ∧ X.env.frame = some X.env.locals) (r : Rx) (st : Stmt) (h : chkS C r st = true) : DS X C.pl W st (denS fs gs r) := by
  cases r with
  | ret a =>
    have h : (match (generalizing := false) st with
      | .Return (some e) _ => chkE C a e
      | _ => false) = true := h
    split at h
    · exact ds_ret (sndE ok w a _ h)
    · cases h
  | retN =>
    have h : (match (generalizing := false) st with
      | .Return none _ => true
      | _ => false) = true := h
    split at h
    · exact ds_retN
    · cases h
  | retO m =>
    have h : (match (generalizing := false) st with
      | .Return (some e) _ => chkM C m e
      | _ => false) = true := h
    split at h
    · exact ds_retO (sndM ok w m _ h)
    · cases h
  | set i a =>
    have h : (match (generalizing := false) st with
      | .Assign [.Name x py] e sp => setB C i x && ((chkE C a e && (noCompB e || isK C x .cell)) || (match (generalizing := false) a with
        | .ml (.lc it own tg t b) => (match (generalizing := false) e with
          | .ListComp elt [⟨tgE, iter, ifs, as⟩] scope pos => swLc C x scope py pos && (decide (as = 0) && (chkI C it tgE iter && (blkB C scope own && ((tgI tg).all (fun i => own.elem i) && (tgB (inner C scope) tgE tg && (chkTs (inner C scope) t ifs && (chkE (inner C scope) b elt && noSetB iter)))))))
          | _ => false)
        | _ => false))
      | _ => false) = true := h
    split at h
    · rename_i x0 py0 e0 sp0 _
      obtain ⟨h1, h⟩ := ba2 h
      obtain ⟨s1, s2, s3, s4⟩ := set_ok ok h1
      rcases Bool.or_eq_true_iff.mp h with h | h
      · obtain ⟨h2, h3⟩ := ba2 h
        exact ds_set (by rw [ok.N]; exact ok.nd) s1 s2 s3 (sndE ok w a _ h2) (swC_ok ok h3) s4
      · cases a with
        | ml a => cases a with
          | lc it own tg t b =>
            have h : (match (generalizing := false) e0 with
              | .ListComp elt [⟨tgE, iter, ifs, as⟩] scope pos => swLc C x0 scope py0 pos && (decide (as = 0) && (chkI C it tgE iter && (blkB C scope own && ((tgI tg).all (fun i => own.elem i) && (tgB (inner C scope) tgE tg && (chkTs (inner C scope) t ifs && (chkE (inner C scope) b elt && noSetB iter)))))))
              | _ => false) = true := h
            exact setLcV_snd ok w h1 h
          | _ => cases h
        | _ => cases h
    · cases h
  | setO i m =>
    have h : (match (generalizing := false) st with
      | .Assign [.Name x py] e sp => setB C i x && ((chkM C m e && (noCompB e || isK C x .cell)) || (match (generalizing := false) m with
        | .lc it own tg t b => (match (generalizing := false) e with
          | .ListComp elt [⟨tgE, iter, ifs, as⟩] scope pos => swLc C x scope py pos && (decide (as = 0) && (chkI C it tgE iter && (blkB C scope own && ((tgI tg).all (fun i => own.elem i) && (tgB (inner C scope) tgE tg && (chkTs (inner C scope) t ifs && (chkE (inner C scope) b elt && noSetB iter)))))))
          | _ => false)
        | _ => false))
      | _ => false) = true := h
    split at h
    · rename_i x0 py0 e0 sp0 _
      obtain ⟨h1, h⟩ := ba2 h
      obtain ⟨s1, s2, s3, s4⟩ := set_ok ok h1
      rcases Bool.or_eq_true_iff.mp h with h | h
      · obtain ⟨h2, h3⟩ := ba2 h
        exact ds_setO (by rw [ok.N]; exact ok.nd) s1 s2 s3 (sndM ok w m _ h2) (swC_ok ok h3) s4
      · cases m with
        | lc it own tg t b =>
          have h : (match (generalizing := false) e0 with
            | .ListComp elt [⟨tgE, iter, ifs, as⟩] scope pos => swLc C x0 scope py0 pos && (decide (as = 0) && (chkI C it tgE iter && (blkB C scope own && ((tgI tg).all (fun i => own.elem i) && (tgB (inner C scope) tgE tg && (chkTs (inner C scope) t ifs && (chkE (inner C scope) b elt && noSetB iter)))))))
            | _ => false) = true := h
          exact setLcO_snd ok w h1 h
        | _ => cases h
    · cases h
  | drop a =>
    have h : (match (generalizing := false) st with
      | .Expr e _ => chkE C a e && noCompB e
      | _ => false) = true := h
    split at h
    · obtain ⟨h1, h2⟩ := ba2 h
      exact ds_expr (sndE ok w a _ h1) (sw_ok h2 _ _ _)
    · cases h
  | sif t a b =>
    have h : (match (generalizing := false) st with
      | .If c u v _ => chkT C t c && (chkSs C a u && chkSs C b v)
      | _ => false) = true := h
    split at h
    · obtain ⟨h1, h⟩ := ba2 h
      obtain ⟨h2, h3⟩ := ba2 h
      exact ds_if (sndT ok w t _ h1) (sndSs ok w po hs a _ h2) (sndSs ok w po hs b _ h3)
    · cases h
  | bk =>
    have h : (match (generalizing := false) st with
      | .Break _ => true
      | _ => false) = true := h
    split at h
    · exact ds_bk
    · cases h
  | ct =>
    have h : (match (generalizing := false) st with
      | .Continue _ => true
      | _ => false) = true := h
    split at h
    · exact ds_ct
    · cases h
  | pass =>
    have h : (match (generalizing := false) st with
      | .Pass _ => true
      | _ => false) = true := h
    split at h
    · exact ds_pass
    · cases h
  | no => exact ds_no
  | app i a =>
    have h : (match (generalizing := false) st with
      | .Expr (.Call (.Attribute (.Name z _) nm ap) [y] [] pos) _ => decide (nm = "append") && (varB C i z && ((ap.endLine == pos.line) && (chkE C a y && plainB y)))
      | _ => false) = true := h
    split at h
    · obtain ⟨h1, h⟩ := ba2 h
      obtain ⟨h2, h⟩ := ba2 h
      obtain ⟨h3, h⟩ := ba2 h
      obtain ⟨h4, h5⟩ := ba2 h
      rw [of_decide_eq_true h1]
      refine ds_oUp PySem.F.slot_list_append PySem.F.type_list_append up_append (var_ok ok h2) (sndE ok w a _ h4) rfl h3 ?_ (star_ok h5 _ _) (sw_ok rfl _ _ _)
      rw [star_ok h5]
      rfl
    · cases h
  | ext i a =>
    have h : (match (generalizing := false) st with
      | .Expr (.Call (.Attribute (.Name z _) nm ap) [y] [] pos) _ => decide (nm = "extend") && (varB C i z && ((ap.endLine == pos.line) && (chkE C a y && plainB y)))
      | _ => false) = true := h
    split at h
    · obtain ⟨h1, h⟩ := ba2 h
      obtain ⟨h2, h⟩ := ba2 h
      obtain ⟨h3, h⟩ := ba2 h
      obtain ⟨h4, h5⟩ := ba2 h
      rw [of_decide_eq_true h1]
      refine ds_oUp PySem.F.slot_list_extend PySem.F.type_list_extend up_extend (var_ok ok h2) (sndE ok w a _ h4) rfl h3 ?_ (star_ok h5 _ _) (sw_ok rfl _ _ _)
      rw [star_ok h5]
      rfl
    · cases h
  | oSet i b a =>
    have h : (match (generalizing := false) st with
      | .Assign [.Subscript (.Name z _) y _] e _ => varB C i z && (chkE C b y && (chkE C a e && (noSliceB y && noCompB e)))
      | _ => false) = true := h
    split at h
    · obtain ⟨h1, h⟩ := ba2 h
      obtain ⟨h2, h⟩ := ba2 h
      obtain ⟨h3, h⟩ := ba2 h
      obtain ⟨h4, h5⟩ := ba2 h
      exact ds_oSet (var_ok ok h1) (sndE ok w b _ h2) (sndE ok w a _ h3) (fun v => sub_side _ _ _ _ h4 _ v) (swSole_ok h5 _ _ _) rfl rfl
    · cases h
  | asg tg a =>
    have h : (match (generalizing := false) st with
      | .Assign [.Tuple ts k p] (.Call f as ks p2) _ => tgB C (.Tuple ts k p) tg && (tgPl C tg && chkE C a (.Call f as ks p2))
      | .Assign [.Tuple ts k p] (.Subscript f as p2) _ => tgB C (.Tuple ts k p) tg && (tgPl C tg && chkE C a (.Subscript f as p2))
      | .Assign [.Tuple ts k p] (.Name f p2) _ => tgB C (.Tuple ts k p) tg && (tgPl C tg && chkE C a (.Name f p2))
      | _ => false) = true := h
    split at h
    · obtain ⟨h1, h⟩ := ba2 h
      obtain ⟨h2, h3⟩ := ba2 h
      exact ds_asg (sndE ok w a _ h3) (tg_ok ok h1) (tgPl_ok h2) (asg_side _ _ _ _ rfl rfl _ _).1 (asg_side _ _ _ _ rfl rfl 0 _).2 rfl
    · obtain ⟨h1, h⟩ := ba2 h
      obtain ⟨h2, h3⟩ := ba2 h
      exact ds_asg (sndE ok w a _ h3) (tg_ok ok h1) (tgPl_ok h2) (asg_side _ _ _ _ rfl rfl _ _).1 (asg_side _ _ _ _ rfl rfl 0 _).2 rfl
    · obtain ⟨h1, h⟩ := ba2 h
      obtain ⟨h2, h3⟩ := ba2 h
      exact ds_asg (sndE ok w a _ h3) (tg_ok ok h1) (tgPl_ok h2) (asg_side _ _ _ _ rfl rfl _ _).1 (asg_side _ _ _ _ rfl rfl 0 _).2 rfl
    · cases h
  | par i j es =>
    have h : (match (generalizing := false) st with
      | .Assign [.Tuple [.Name x px, .Name y py] _ _] (.Tuple [a, b] _ _) _ => decide (C.sc.kind = .function) && (decide (C.N[i]? = some x) && (decide (C.N[j]? = some y) && (!decide (i = j) && (!decide (x = y) && (isK C x .local && (isK C y .local && (plB C i && (plB C j &&
          ((py.line == px.line) && (chkL C es [a, b] && (!([a, b].all (foldedForSure 8)) && !([a, b].all (constantsAlone 8)))))))))))))
      | _ => false) = true := h
    split at h
    · obtain ⟨h1, h⟩ := ba2 h
      obtain ⟨h2, h⟩ := ba2 h
      obtain ⟨h3, h⟩ := ba2 h
      obtain ⟨h4, h⟩ := ba2 h
      obtain ⟨h5, h⟩ := ba2 h
      obtain ⟨h6, h⟩ := ba2 h
      obtain ⟨h7, h⟩ := ba2 h
      obtain ⟨h8, h⟩ := ba2 h
      obtain ⟨h9, h⟩ := ba2 h
      obtain ⟨h10, h⟩ := ba2 h
      obtain ⟨h11, h⟩ := ba2 h
      obtain ⟨h12, h13⟩ := ba2 h
      have hpl := chkL_two h11
      have hx := isK_ok ok h6
      have hy := isK_ok ok h7
      refine ds_par ok.calm (by rw [ok.N]; exact ok.nd) (by rw [ok.N]; exact of_decide_eq_true h2) (by rw [ok.N]; exact of_decide_eq_true h3) (by simpa using h4) hx hy (by unfold plB at h8; simpa using h8) (by unfold plB at h9; simpa using h9) (sndL ok w es _ h11)
        (sws_ok (by rw [ok.sc]; exact of_decide_eq_true h1) hx hy (by simpa using h5) h10 hpl.1 hpl.2 (notT h12) (notT h13)) (swSole_ok rfl _ _ _)
    · cases h
  | «for» it tg body =>
    have h : (match (generalizing := false) st with
      | .For tgE iter b [] _ => chkI C it tgE iter && (tgB C tgE tg && (tgPl C tg && (chkSs C body b && noSetB iter)))
      | _ => false) = true := h
    split at h
    · obtain ⟨h1, h⟩ := ba2 h
      obtain ⟨h2, h⟩ := ba2 h
      obtain ⟨h3, h⟩ := ba2 h
      obtain ⟨h4, h5⟩ := ba2 h
      exact ds_for po ok.calm (sndI ok w it _ _ h1) (tg_ok ok h2) (tgPl_ok h3) (sndSs ok w po hs body _ h4) (fun x => fold_ok h5 _ x)
    · cases h
  | «while» t body =>
    have h : (match (generalizing := false) st with
      | .While c b [] _ => chkT C t c && chkSs C body b
      | _ => false) = true := h
    split at h
    · obtain ⟨h1, h2⟩ := ba2 h
      exact ds_while po (sndT ok w t _ h1) (sndSs ok w po hs body _ h2)
    · cases h
  | raise0 c =>
    have h : (match (generalizing := false) st with
      | .Raise (some (.Call (.Name x _) [.Constant (.str _) _ _] [] _)) none _ => decide (x = c) && (glB C x && hasX C c none)
      | _ => false) = true := h
    split at h
    · obtain ⟨h1, h⟩ := ba2 h
      obtain ⟨h2, h3⟩ := ba2 h
      obtain ⟨g, G, e1, e2, _⟩ := hasX_ok ok h3
      obtain ⟨hg, hdb⟩ := gl_ok ok h2
      rw [of_decide_eq_true h1] at hg hdb ⊢
      subst e1
      exact ds_raise0 ok.calm w.tk G e2 hg hdb
    · cases h
  | raise1 c fld es =>
    have h : (match (generalizing := false) st with
      | .Raise (some (.Call (.Name x _) [e] [] _)) none _ => decide (x = c) && (glB C x && (hasX C c (some fld) && (chkL C es [e] && plainB e)))
      | _ => false) = true := h
    split at h
    · obtain ⟨h1, h⟩ := ba2 h
      obtain ⟨h2, h⟩ := ba2 h
      obtain ⟨h3, h⟩ := ba2 h
      obtain ⟨h4, h5⟩ := ba2 h
      obtain ⟨g, G, e1, e2, hr⟩ := hasX_ok ok h3
      obtain ⟨hg, hdb⟩ := gl_ok ok h2
      rw [of_decide_eq_true h1] at hg hdb ⊢
      subst e1
      exact ds_raise1 (k := 0) ok.calm w.tk G e2 hg hdb hr (sndL ok w es _ h4) (star_ok h5 _ _)
    · cases h
  | tryAs body i cn tbl su =>
    have h : (match (generalizing := false) st with
      | .Try b [.ExceptHandler (some (.Name x _)) (some n) [.Return (some e) _] _] [] [] _ => decide (x = cn) && (glB C x && ((C.excs.any fun g => decide (g.name = cn)) && (decide (C.N[i]? = some n) && (isK C n .local && (plB C i && (tbl.all (fun q => C.exm.elem ((q.1, cn), q.2)) && (chkSs C body b && chkSx C n su e)))))))
      | _ => false) = true := h
    split at h
    · obtain ⟨h1, h⟩ := ba2 h
      obtain ⟨h2, h⟩ := ba2 h
      obtain ⟨h3, h⟩ := ba2 h
      obtain ⟨h4, h⟩ := ba2 h
      obtain ⟨h5, h⟩ := ba2 h
      obtain ⟨h6, h⟩ := ba2 h
      obtain ⟨h7, h⟩ := ba2 h
      obtain ⟨h8, h9⟩ := ba2 h
      obtain ⟨g, m1, m2⟩ := List.any_eq_true.mp h3
      obtain ⟨hg, hdb⟩ := gl_ok ok h2
      have ex := of_decide_eq_true h1
      subst ex
      have eg := of_decide_eq_true m2
      have hm : X.mg g.name = some (.ref (He.ga X.K g.name)) := (ok.exs g m1).glo
      rw [eg] at hm
      refine ds_try_as hs.1 hs.2 (by rw [ok.N]; exact ok.nd) (by rw [ok.N]; exact of_decide_eq_true h4) (isK_ok ok h5) (by unfold plB at h6; simpa using h6) ⟨hg, hdb, .inl hm⟩ w.tk (fun W' pn xe t po' => ?_) (fun y b hb => ?_) (fun a oe cls d pn hz hf => su_ret (sndSx ok h9 (of_decide_eq_true h4) h5 hz hf))
      · exact sndSs (X := X.tr pn xe) (tr_ok ok pn xe) ⟨t⟩ po' hs body _ h8
      · obtain ⟨q, hq, hq2⟩ := lookup_mem2 hb
        have := List.all_eq_true.mp h7 q hq
        obtain ⟨e1, e2⟩ := hq2
        rw [← e1, ← e2]
        exact ok.exm _ (by simpa using this)
    · cases h
  | tryIf body i cn tbl t su =>
    have h : (match (generalizing := false) st with
      | .Try b [.ExceptHandler (some (.Name x _)) (some n) [.If te [.Return (some e) _] [] _] _] [] [] _ => decide (x = cn) && (glB C x && ((C.excs.any fun g => decide (g.name = cn)) && (decide (C.N[i]? = some n) && (isK C n .local && (plB C i && (tbl.all (fun q => C.exm.elem ((q.1, cn), q.2)) && (chkSs C body b && (chkSx C n su e && (chkTx C n t te && (decide (n ≠ ("__debug__" : Str)) && decide (n ≠ ("__classdict__" : Str))))))))))))
      | _ => false) = true := h
    split at h
    · obtain ⟨h1, h⟩ := ba2 h
      obtain ⟨h2, h⟩ := ba2 h
      obtain ⟨h3, h⟩ := ba2 h
      obtain ⟨h4, h⟩ := ba2 h
      obtain ⟨h5, h⟩ := ba2 h
      obtain ⟨h6, h⟩ := ba2 h
      obtain ⟨h7, h⟩ := ba2 h
      obtain ⟨h8, h⟩ := ba2 h
      obtain ⟨h9, h⟩ := ba2 h
      obtain ⟨h10, h⟩ := ba2 h
      obtain ⟨h11, h12⟩ := ba2 h
      obtain ⟨g, m1, m2⟩ := List.any_eq_true.mp h3
      obtain ⟨hg, hdb⟩ := gl_ok ok h2
      have ex := of_decide_eq_true h1
      subst ex
      have eg := of_decide_eq_true m2
      have hm : X.mg g.name = some (.ref (He.ga X.K g.name)) := (ok.exs g m1).glo
      rw [eg] at hm
      refine ds_try_as hs.1 hs.2 (by rw [ok.N]; exact ok.nd) (by rw [ok.N]; exact of_decide_eq_true h4) (isK_ok ok h5) (by unfold plB at h6; simpa using h6) ⟨hg, hdb, .inl hm⟩ w.tk (fun W' pn xe t po' => ?_) (fun y b hb => ?_) (fun a oe cls d pn hz hf => su_if (sndTx ok (of_decide_eq_true h4) h5 hz hf h11 h12 t _ h10) (sndSx ok h9 (of_decide_eq_true h4) h5 hz hf))
      · exact sndSs (X := X.tr pn xe) (tr_ok ok pn xe) ⟨t⟩ po' hs body _ h8
      · obtain ⟨q, hq, hq2⟩ := lookup_mem2 hb
        have := List.all_eq_true.mp h7 q hq
        obtain ⟨e1, e2⟩ := hq2
        rw [← e1, ← e2]
        exact ok.exm _ (by simpa using this)
    · cases h
  | _ => cases h
theorem sndSs {C : Ctx} {fs : List Fn} {gs : List D} {X : Cx} {W : WX} (ok : CtxOk C fs gs X) (w : WOk X W) (po : PassesOwn (model X.prog X.w) X.A X.env X.xe) (hs : X.stack = X.env :: X.outer ∧ X.env.frame = some X.env.locals) (r : Rx) (sts : List Stmt) (h : chkSs C r sts = true) : DSs X C.pl W sts (denS fs gs r) := by
  cases r with
  | nx =>
    cases sts with
    | nil => exact dss_nil
    | cons s t => cases h
  | seq a b =>
    cases sts with
    | nil => cases h
    | cons s t =>
      obtain ⟨h1, h2⟩ := ba2 h
      exact dss_cons (sndS ok w po hs a s h1) (sndSs ok w po hs b t h2)
  | _ => cases h
end

/-! ### defs -/
/-- what a def that is called must keep -/
def GOk (P : Program) (w : World) (K : PySem.W.Frag) (mg : Str → Option Value) (base : Heap) (k : Nat) (g : GFn) (F : Fn) : Prop :=
  ∃ f fd ps, mg g.name = some (.ref f) ∧ FnOk P w K mg base (L2.CX P w) k f fd ps (spD K g.n F) ∧ PySem.W.keepIn K (.ref f) = true ∧ Binds K fd ps []
theorem GOk.mono {P : Program} {w : World} {K : PySem.W.Frag} {mg : Str → Option Value} {base : Heap} {j k : Nat} {g : GFn} {F : Fn} (h : GOk P w K mg base j g F) (l : j ≤ k) : GOk P w K mg base k g F :=
  let ⟨f, fd, ps, h1, h2, h3, h4⟩ := h; ⟨f, fd, ps, h1, h2.mono l, h3, h4⟩
structure Glob (K : PySem.W.Frag) (mg : Str → Option Value) (free : List Str) (vals : List (Str × D)) (gs : List D) : Prop where
  free : ∀ x, free.elem x = true → mg x = none
  vals : ∀ j x, (vals[j]?).map (·.1) = some x → ∃ u v, mg x = some u ∧ RelV v u ∧ ∀ H, VR K H (gs.getD j .non) v
/-- what the module says of its exceptions -/
structure GlobX (P : Program) (w : World) (K : PySem.W.Frag) (mg : Str → Option Value) (base : Heap) (k : Nat) (excs : List GEx) (exm : List ((Str × Str) × Bool)) (exi : List IsF) : Prop where
  exs : ∀ g ∈ excs, GExc P w K mg base g
  exm : ∀ q ∈ exm, PySem.W.exmOne K (.ref (He.ga K q.1.1)) (.ref (He.ga K q.1.2)) = some q.2
  rm : excs ≠ [] → 2 ≤ k
  exi : ∀ q ∈ exi, IsF.ok K q
theorem globX_nil {P : Program} {w : World} {K : PySem.W.Frag} {mg : Str → Option Value} {base : Heap} {k : Nat} : GlobX P w K mg base k [] [] [] := ⟨fun _ h => by simp at h, fun _ h => by simp at h, fun h => absurd rfl h, fun _ h => by simp at h⟩
theorem def_ok {P : Program} {w : World} {K : PySem.W.Frag} {mg : Str → Option Value} {base : Heap} {x qual : Str} {params : Arguments} {body : List Stmt} {scope : Scope} {kws : List (Str × V)} {f : Addr} {fd : FuncData} {k : Nat} {N ps : List Str} {own : List Bool}
    {fns : List GFn} {free : List Str} {vals : List (Str × D)} {excs : List GEx} {exm : List ((Str × Str) × Bool)} {exi : List IsF} {fs : List Fn} {gs : List D} {r : Rx}
    (F : FunD K x qual params body scope [] kws f fd) (S : FnScope N ps scope) (hl : own.length = ps.length) (gf : ∀ j g, fns[j]? = some g → GOk P w K mg base k g (fnAt fs j)) (gl : Glob K mg free vals gs) (gx : GlobX P w K mg base k excs exm exi)
    (hc : chkSs { N := N, sc := scope, pl := ownIx own 0, fns := fns, free := free, vals := vals, excs := excs, exm := exm, exi := exi } r body = true) :
    FnOk P w K mg base (L2.CX P w) (k + 1) f fd ps (spD K own.length (fnF own N.length (denS fs gs r))) := by
  refine F.ok S (fun vs H Q E h => by rw [spD_len vs H Q E h, hl]) (fun cdv A outer s H vs Q E hr h => ⟨_, ?_, body_reads h⟩)
  have ok : CtxOk { N := N, sc := scope, pl := ownIx own 0, fns := fns, free := free, vals := vals, excs := excs, exm := exm, exi := exi } fs gs (cxOf (L2.CX P w) P w K mg base N qual scope f cdv A outer s H E) :=
    ⟨rfl, S.nd, rfl, rfl, fun _ _ => rfl, fun j g hg => let ⟨f', fd', ps', h1, h2, h3, h4⟩ := gf j g hg; ⟨k, f', fd', ps', h1, h2, hr, h3, h4⟩, gl.free, gl.vals, by have := hr.un; show (A.deeper _).units + 65 < cLine; omega, gx.exs, gx.exm, fun z => hr.mono (gx.rm z), gx.exi⟩
  have w' : WOk (cxOf (L2.CX P w) P w K mg base N qual scope f cdv A outer s H E) (fun cls dd _ H' => E cls dd H') := ⟨takes_of rfl rfl rfl rfl⟩
  exact (sndSs ok w' (passes_of rfl) ⟨rfl, rfl⟩ r body hc).h
theorem gok_of {P : Program} {w : World} {K : PySem.W.Frag} {mg : Str → Option Value} {base : Heap} {x qual : Str} {params : Arguments} {body : List Stmt} {scope : Scope} {kws : List (Str × V)} {f : Addr} {fd : FuncData} {k : Nat} {N ps : List Str} {own : List Bool}
    {fns : List GFn} {free : List Str} {vals : List (Str × D)} {excs : List GEx} {exm : List ((Str × Str) × Bool)} {exi : List IsF} {fs : List Fn} {gs : List D} {r : Rx} {nm : Str} {n : Nat}
    (F : FunD K x qual params body scope [] kws f fd) (S : FnScope N ps scope) (hl : own.length = ps.length) (gf : ∀ j g, fns[j]? = some g → GOk P w K mg base k g (fnAt fs j)) (gl : Glob K mg free vals gs) (gx : GlobX P w K mg base k excs exm exi)
    (hc : chkSs { N := N, sc := scope, pl := ownIx own 0, fns := fns, free := free, vals := vals, excs := excs, exm := exm, exi := exi } r body = true) (hm : mg nm = some (.ref f)) (hb : Binds K fd ps []) (hn : own.length = n) {G : Fn} (hG : fnF own N.length (denS fs gs r) = G) :
    GOk P w K mg base (k + 1) ⟨nm, n⟩ G := by
  subst hn hG
  exact ⟨f, fd, ps, hm, def_ok F S hl gf gl gx hc, F.kp, hb⟩
end DL
/-! DLL: a law's end. -/
namespace DL
open PySem PySem.Spec PyProof.Rows L2
section
variable {P : Program} {w : World} {K : PySem.W.Frag} {mg : Str → Option Value} {base : Heap} {k : Nat}
theorem gf_nil : ∀ (j : Nat) (g : GFn), ([] : List GFn)[j]? = some g → GOk P w K mg base k g (fnAt [] j) := fun j g h => by simp at h
theorem gf_cons {g0 : GFn} {F0 : Fn} {fns : List GFn} {fs : List Fn} (h0 : GOk P w K mg base k g0 F0) (h : ∀ (j : Nat) (g : GFn), fns[j]? = some g → GOk P w K mg base k g (fnAt fs j)) :
    ∀ (j : Nat) (g : GFn), (g0 :: fns)[j]? = some g → GOk P w K mg base k g (fnAt (F0 :: fs) j) := fun j g hj => by
  cases j with
  | zero =>
    cases hj
    exact h0
  | succ j => exact h j g hj
end
theorem scr_of {K : PySem.W.Frag} {H : Hp} {a : Addr} {vs : List V} (hO : Only H) (h : SqL K H a vs) : Scr K H a vs := by
  rcases h with (h | h) | h
  · rcases hO a with q | ⟨o, xs, q⟩
    · rw [h] at q; cases q
    · rw [h] at q; cases q
  · exact .inl h
  · exact .inr h
theorem law_sp {K : PySem.W.Frag} {F : Fn} (h : LawTrue F) (H : Hp) (a : Addr) (ns : List Int) (hl : ns.length ≤ 63) (hO : Only H) (hS : SqL K H a (ns.map V.int)) : spD K 1 F [.ref a] H (fun v _ => v = .bl true) (fun _ _ _ => False) := by
  refine ⟨[.v (.scr ns)], rfl, ⟨rfl, fun i d hi => ?_, fun i xs hi => ?_, fun i j xs ys b h1 => ?_⟩, ?_⟩
  · cases i with
    | zero =>
      cases hi
      exact ⟨.ref a, rfl, .scr (scr_of hO hS)⟩
    | succ i => simp at hi
  · cases i with
    | zero => cases hi
    | succ i => simp at hi
  · cases i with
    | zero => cases h1
    | succ i => simp at h1
  · obtain ⟨ρ, e⟩ := h ns hl
    rw [e]
    intro v H' _ _ r
    cases r
    rfl
/-! ### the head's Hook, with the exception classes that have an own __init__ -/
abbrev FnC : Type := Option (Arguments × FuncBody × Scope × Addr × Addr)
def fnC (K : PySem.W.Frag) (p : Str × Option Str) : FnC := match K.lookup (He.fAd K p) with
  | some ⟨_, _, .func fd, _⟩ => some (fd.params, fd.body, fd.scope, fd.globals, fd.builtins)
  | _ => none
/-- an own __init__ by super().__init__: its class, its text, the field -/
structure SupD where
  cls : Str
  params : Arguments
  body : List Stmt
  scope : Scope
  fld : Str
  file : Str
def SupD.val (d : SupD) : FnC := some (d.params, .stmts d.body, d.scope, mainGlobals, builtinsNs)
def oexB (K : PySem.W.Frag) (C : Addr) : Bool := match K.lookup C with
  | some ⟨.type t, _, .cls cd, sl⟩ => (match cd.mro, sl.toList with
    | .ref C' :: bm, [_, _, _, _, some (.builtin n), _] => decide (t = "type") && (decide (C' = C) && (decide (n = "ValueError.__new__") && (!cd.hasDel && (cd.hasDict && PySem.HandSPX.refsVE bm))))
    | _, _ => false)
  | _ => false
theorem oexB_ok {K : PySem.W.Frag} {C : Addr} (h : oexB K C = true) : ∃ nm q N bs bm sn sub ab col dd k0 k1 k2 k3 k5, K.lookup C = some (excClassObj nm q C N bs bm true sn sub ab col dd k0 k1 k2 k3 k5 "ValueError.__new__") ∧ PySem.HandSPX.refsVE bm = true := by
  unfold oexB at h
  split at h
  · rename_i t dd cd sl ho
    split at h
    · rename_i C' bm k0 k1 k2 k3 n k5 hm hs
      obtain ⟨h1, h⟩ := Bool.and_eq_true_iff.mp h
      obtain ⟨h2, h⟩ := Bool.and_eq_true_iff.mp h
      obtain ⟨h3, h⟩ := Bool.and_eq_true_iff.mp h
      obtain ⟨h4, h⟩ := Bool.and_eq_true_iff.mp h
      obtain ⟨h5, h6⟩ := Bool.and_eq_true_iff.mp h
      obtain ⟨nm, bs, mro, ns, qn, hd, sn, sb, ab, col, del⟩ := cd
      dsimp only at hm h4 h5
      have e1 := of_decide_eq_true h1
      have e2 := of_decide_eq_true h2
      have e3 := of_decide_eq_true h3
      have e4 : del = false := by simpa using h4
      subst e1 e2 e3 e4 h5 hm
      have hsl : sl = #[k0, k1, k2, k3, some (.builtin "ValueError.__new__"), k5] := by
        obtain ⟨l⟩ := sl
        simp only at hs
        rw [hs]
      subst hsl
      exact ⟨nm, qn, ns, bs, bm, sn, sb, ab, col, dd, k0, k1, k2, k3, k5, ho, h6⟩
    · cases h
  · cases h
def cloB (K : PySem.W.Frag) (C : Addr) : List (Str × Addr) → Bool
  | [(n, cc)] => decide (n = ("__class__" : Str)) && (match K.lookup cc with
    | some ⟨_, _, .cell (some (.ref D)), _⟩ => decide (D = C)
    | _ => false)
  | _ => false
def codB (K : PySem.W.Frag) (file : Str) : Value → Bool
  | .ref c => (match K.lookup c with
    | some ⟨_, _, .fields vs, _⟩ => (match (vs[2]? : Option Value) with
      | some (.str f _) => file == f
      | _ => false)
    | _ => false)
  | _ => false
def noneB : Value → Bool
  | .none => true
  | _ => false
def SupD.ok (K : PySem.W.Frag) (d : SupD) : Bool :=
  (match K.lookup (He.fAd K (d.cls, some "__init__")) with
    | some ⟨_, _, .func fd, _⟩ => cloB K (He.ga K d.cls) fd.closure && (codB K d.file fd.code && (PySem.W.codeIn K fd.code fd.qualname && noneB fd.defaults))
    | _ => false) &&
  (PySem.W.keepIn K (.ref (He.ga K d.cls)) && (He.eqO (PySem.W.findIn K (.ref (He.ga K d.cls)) "__init__") (some (some (.ref (He.fAd K (d.cls, some "__init__"))))) && (decide (PySem.W.typeIn K (.ref (He.fAd K (d.cls, some "__init__"))) = some (.type "function")) &&
    (oexB K (He.ga K d.cls) && (He.eqO (PySem.W.findIn K (.ref (He.ga K d.cls)) "__setattr__") (some (some (.builtin "object.__setattr__"))) && (decide (PySem.W.subIn K (.ref (He.ga K d.cls)) (.type "BaseException") = some true) && (decide (PySem.W.typeIn K (.ref (He.ga K d.cls)) = some (.type "type")) &&
      (xfB K (He.ga K d.cls) && (He.eqO (PySem.W.findIn K (.ref (He.ga K d.cls)) d.fld) (some none) && (decide (PySem.W.subIn K (.ref (He.ga K d.cls)) (.type "ValueError") = some true) && (decide (PySem.W.mroIn K (He.ga K d.cls) (.ref (He.ga K d.cls)) = some true) &&
        (He.eqO (PySem.W.ks_superIn K (He.ga K d.cls) (He.ga K d.cls) "__init__") (some (some (.builtin "ValueError.__init__"))) && He.eqO (PySem.W.nsIn K PySem.cStatics "thirdparty.any") (some none)))))))))))))
def litB (sc : Scope) (me r : Str) : Bool := decide (sc.kind = .function) && (!sc.isCoroutine && (!sc.isGenerator && (sc.names.all (fun x => !decide (x.2 = .cell)) && (decide (sc.names.lookup me = some .local) && (decide (sc.names.lookup r = some .local) &&
  (decide (sc.names.lookup ("super" : Str) = some .globalImplicit) && (decide (sc.names.lookup ("__class__" : Str) = some .free) && (!decide (me = r) && (!(me == ("__debug__" : Str)) && !(r == ("__debug__" : Str)))))))))))
/-- what the text of such an __init__ must be -/
structure SupT (P : Program) (d : SupD) (me r : Str) (e : Expr) : Prop where
  body : ∃ p0 p1 p2 p4 p5 p6 p7 p8 p9, d.body = [.Expr (.Call (.Attribute (.Call (.Name "super" p0) [] [] p1) "__init__" p2) [e] [] p4) p5, .Assign [.Attribute (.Name me p6) d.fld p7] (.Name r p8) p9] ∧ SupEv e p0 p1 p2 p4
  par : ∃ ar : Arg, (d.params.posonlyargs ++ d.params.args).head? = some ar ∧ ar.arg = me
  lits : litB d.scope me r = true
  binds : ∀ (n1 n2 : Str) (n7 : List (Str × Addr)) (n9 n10 n11 : Value) (n12 : Option Addr) (n13 n14 : Value) (us : List Value), us.length = 2 → bindArgs ⟨n1, n2, d.params, .stmts d.body, d.scope, mainGlobals, n7, .none, n9, n10, n11, n12, n13, n14, builtinsNs⟩ ⟨us, []⟩ = pure ([me, r].zip us)
  file : ((P.main.file : Str) == d.file) = true
  top : (P.main.scope.names.lookup ("super" : Str)).isSome = false
theorem quiet_name {P : Program} {w : World} {fd : FuncData} {f : Addr} {r : Str} {p : Pos} (hk : fd.scope.kind = .function) (hr : fd.scope.names.lookup r = some .local) (hd : (r == ("__debug__" : Str)) = false) (L : Addr) : Quiet P w (callEnv fd L f) r (.Name r p) :=
  fun A Q E s m u hn hm hq => wpAny_Name (wpAny_loadName_local (env := callEnv fd L f) hk hr hn hm (hq u s.toks)) hd
theorem quiet_str {P : Program} {w : World} {env : PySem.Env} {r m : Str} {j : Nat} {p : Pos} : Quiet P w env r (.Constant (.str m) j p) := fun A Q E s m' u hn hm hq => by
  refine PySem.wpAny_mono (Q := fun v s' => ∃ t, s' = { s with toks := t }) (E := fun _ _ => False) ?_ (fun v s' ⟨t, e⟩ => e ▸ hq v t) fun _ _ z => z.elim
  exact wpAny_mkText ⟨_, rfl⟩
theorem gexc_own {P : Program} {w : World} {K : PySem.W.Frag} {mg : Str → Option Value} {base : Heap} {x : Str} (hm : mg x = some (.ref (He.ga K x))) (c : (He.Fa.exc x).ok K = true) : GExc P w K mg base ⟨x, none⟩ := by
  obtain ⟨c1, c⟩ := Bool.and_eq_true_iff.mp c
  obtain ⟨c2, c⟩ := Bool.and_eq_true_iff.mp c
  obtain ⟨c3, c4⟩ := Bool.and_eq_true_iff.mp c
  exact ⟨hm, c2, of_decide_eq_true c3, of_decide_eq_true c4, fun _ => c1, fun fld h => (by cases h)⟩
theorem sup_gexc {P : Program} {w : World} {K : PySem.W.Frag} {mg : Str → Option Value} {d : SupD} {me r : Str} {e : Expr} (hm : mg d.cls = some (.ref (He.ga K d.cls))) (hs : mg "super" = none) (T : SupT P d me r e) (hst : ∀ env : PySem.Env, starEach [e] env = [(false, eval e env)])
    (hq : ∀ (fd : FuncData) (f L : Addr), fd.scope = d.scope → Quiet P w (callEnv fd L f) r e) (c : d.ok K = true) (ev : fnC K (d.cls, some "__init__") = d.val) (base : Heap) : GExc P w K mg base ⟨d.cls, some d.fld⟩ := by
  obtain ⟨c1, c⟩ := Bool.and_eq_true_iff.mp c
  obtain ⟨c2, c⟩ := Bool.and_eq_true_iff.mp c
  obtain ⟨c3, c⟩ := Bool.and_eq_true_iff.mp c
  obtain ⟨c4, c⟩ := Bool.and_eq_true_iff.mp c
  obtain ⟨c5, c⟩ := Bool.and_eq_true_iff.mp c
  obtain ⟨c6, c⟩ := Bool.and_eq_true_iff.mp c
  obtain ⟨c7, c⟩ := Bool.and_eq_true_iff.mp c
  obtain ⟨c8, c⟩ := Bool.and_eq_true_iff.mp c
  obtain ⟨c9, c⟩ := Bool.and_eq_true_iff.mp c
  obtain ⟨c10, c⟩ := Bool.and_eq_true_iff.mp c
  obtain ⟨c11, c⟩ := Bool.and_eq_true_iff.mp c
  obtain ⟨c12, c⟩ := Bool.and_eq_true_iff.mp c
  obtain ⟨c13, c14⟩ := Bool.and_eq_true_iff.mp c
  obtain ⟨l1, l⟩ := Bool.and_eq_true_iff.mp T.lits
  obtain ⟨l2, l⟩ := Bool.and_eq_true_iff.mp l
  obtain ⟨l3, l⟩ := Bool.and_eq_true_iff.mp l
  obtain ⟨l4, l⟩ := Bool.and_eq_true_iff.mp l
  obtain ⟨l5, l⟩ := Bool.and_eq_true_iff.mp l
  obtain ⟨l6, l⟩ := Bool.and_eq_true_iff.mp l
  obtain ⟨l7, l⟩ := Bool.and_eq_true_iff.mp l
  obtain ⟨l8, l⟩ := Bool.and_eq_true_iff.mp l
  obtain ⟨l9, l⟩ := Bool.and_eq_true_iff.mp l
  obtain ⟨l10, l11⟩ := Bool.and_eq_true_iff.mp l
  have ox : OexC K (He.ga K d.cls) := ⟨oexB_ok c5, He.eqO_ok c6, of_decide_eq_true c7, of_decide_eq_true c8, c2⟩
  refine ⟨hm, c2, of_decide_eq_true c7, of_decide_eq_true c8, fun z => (by cases z), fun fld hf => ?_⟩
  cases hf
  unfold fnC at ev
  cases q : K.lookup (He.fAd K (d.cls, some "__init__")) with
  | none =>
    rw [q] at ev
    cases ev
  | some o =>
    obtain ⟨oc, od, dt, osl⟩ := o
    rw [q] at c1 ev
    cases dt with
    | func fd =>
      obtain ⟨n1, n2, n3, n4, n5, n6, n7, n8, n9, n10, n11, n12, n13, n14, n15⟩ := fd
      have e2 : (some (n3, n4, n5, n6, n15) : FnC) = some (d.params, .stmts d.body, d.scope, mainGlobals, builtinsNs) := ev
      simp only [Option.some.injEq, Prod.mk.injEq] at e2
      obtain ⟨h1, h2, h3, h4, h5⟩ := e2
      subst h1 h2 h3 h4 h5
      obtain ⟨d1, d2⟩ := Bool.and_eq_true_iff.mp (show (cloB K (He.ga K d.cls) n7 && (codB K d.file n13 && (PySem.W.codeIn K n13 n2 && noneB n8))) = true from c1)
      clear c1 ev
      obtain ⟨k2, k3⟩ := Bool.and_eq_true_iff.mp d2
      obtain ⟨k4, k5⟩ := Bool.and_eq_true_iff.mp k3
      have e8 : n8 = .none := by
        cases n8 with
        | none => rfl
        | _ => cases k5
      subst e8
      refine ⟨_, _, me, r, ox, He.eqO_ok c3, of_decide_eq_true c4, fun k => sup_fn (e := e) (k := k) ⟨⟨_, _, _, q⟩, rfl, rfl, ?_, ?_, T.par, of_decide_eq_true l1, by simpa using l2, by simpa using l3, fun x hx => ?_, of_decide_eq_true l5, of_decide_eq_true l6, of_decide_eq_true l7, of_decide_eq_true l8, by simpa using l9, by simpa using l10, by simpa using l11, ?_, k4, ox, of_decide_eq_true c11, of_decide_eq_true c12, He.eqO_ok c13, He.eqO_ok c14, He.eqO_ok c10, hs, T.top⟩ (fun L => hq _ _ L rfl) hst, .all fun us hl => T.binds _ _ _ _ _ _ _ _ _ us hl, xfB_ok c9, He.eqO_ok c10⟩
      · match n7, d1 with
        | [(n, cc)], d1 =>
          obtain ⟨g1, g2⟩ := Bool.and_eq_true_iff.mp d1
          cases of_decide_eq_true g1
          split at g2
          · rename_i cl cld D csl ho
            cases of_decide_eq_true g2
            exact ⟨cc, _, _, _, rfl, ho⟩
          · cases g2
      · obtain ⟨p0, p1, p2, p4, p5, p6, p7, p8, p9, hb, hev⟩ := T.body
        exact ⟨p0, p1, p2, p4, p5, p6, p7, p8, p9, by rw [hb], fun L => sw_ok rfl _ _ _, fun L => sw_ok rfl _ _ _, hev⟩
      · have := List.all_eq_true.mp l4 x hx
        simpa using this
      · match n13, k2 with
        | .ref c, d2 =>
          have d2 : (match K.lookup c with
            | some ⟨_, _, .fields vs, _⟩ => (match (vs[2]? : Option Value) with
              | some (.str f _) => d.file == f
              | _ => false)
            | _ => false) = true := d2
          split at d2
          · rename_i ccl cdd vs ccs ho
            split at d2
            · rename_i f tf hv
              refine ⟨c, _, _, vs, _, f, tf, rfl, ho, hv, ?_⟩
              have e1 : d.file = f := beq_iff_eq.mp d2
              rw [← e1]
              exact T.file
            · cases d2
          · cases d2
    | _ => cases ev
/-- a module's name that is a tuple of ints -/
theorem vrs_nums {K : PySem.W.Frag} {H : Hp} : ∀ ns : List Int, VRs K H (ns.map D.int) (ns.map V.int)
  | [] => .nil
  | n :: ns => .cons (.int n) (vrs_nums ns)
theorem glob_tup {K : PySem.W.Frag} {mg : Str → Option Value} {x : Str} {ns : List Int} (hm : mg x = some (.ref (He.ga K x))) (h : He.tupB K x (ns.map He.Dv.int) = true) : ∃ u v, mg x = some u ∧ RelV v u ∧ ∀ H, VR K H (.tup (ns.map D.int)) v := by
  refine ⟨_, .ref (He.ga K x), hm, rfl, fun H => ?_⟩
  have := He.tupB_ok h H
  rw [List.map_map] at this
  exact .tup this (vrs_nums ns)
abbrev AlE : Type := Bool × List He.FnW × List FnC
def frE (n : Nat) (g : Addr → Option Obj) : PySem.W.Frag := He.frG g (He.asD g n ++ [PySem.cStatics])
def obsE (fa : List He.Fa) (fn : List He.DefD) (fc : List SupD) (ex : List (PySem.W.Frag → Bool)) (K : PySem.W.Frag) : AlE := ((((fa.all fun f => f.ok K) && fn.all fun d => d.ok K) && fc.all fun d => d.ok K) && ex.all fun f => f K, fn.map fun d => He.fnW K d.at_, fc.map fun d => fnC K (d.cls, some "__init__"))
def valE (fn : List He.DefD) (fc : List SupD) : AlE := (true, fn.map He.DefD.val, fc.map SupD.val)
def SaysE (fa : List He.Fa) (fn : List He.DefD) (fc : List SupD) (ex : List (PySem.W.Frag → Bool)) (K : PySem.W.Frag) : Prop := obsE fa fn fc ex K = valE fn fc
def obsEG (n : Nat) (fa : List He.Fa) (fn : List He.DefD) (fc : List SupD) (ex : List (PySem.W.Frag → Bool)) (g : Addr → Option Obj) : AlE := obsE fa fn fc ex (frE n g)
def hookE (n : Nat) (fa : List He.Fa) (fn : List He.DefD) (fc : List SupD) (ex : List (PySem.W.Frag → Bool)) : PySem.W.Hook where
  α := AlE
  obs := fun s => obsEG n fa fn fc ex s.heap.get?
  val := fun _ => valE fn fc
  says := fun _ h => ∃ K : PySem.W.Frag, K.In h ∧ SaysE fa fn fc ex K
  of := fun _ _ e => ⟨_, He.frG_in, e⟩
  keeps := fun _ _ _ ⟨K, hK, c⟩ k => ⟨K, PySem.W.Frag.In.keeps hK k, c⟩
theorem obsEG_eq {n : Nat} {fa : List He.Fa} {fn : List He.DefD} {fc : List SupD} {ex : List (PySem.W.Frag → Bool)} {g : Addr → Option Obj} {s : Shared} (h : ∀ a, g a = s.heap.get? a) : obsEG n fa fn fc ex g = (hookE n fa fn fc ex).obs s := by
  have e : g = s.heap.get? := funext h
  rw [e] <;> rfl
section
variable {fa : List He.Fa} {fn : List He.DefD} {fc : List SupD} {ex : List (PySem.W.Frag → Bool)} {K : PySem.W.Frag}
theorem SaysE.ext (c : SaysE fa fn fc ex K) (i : Nat) {f : PySem.W.Frag → Bool} (h : ex[i]? = some f := by rfl) : f K = true := by
  have c1 := (Bool.and_eq_true_iff.mp (show ((((fa.all fun f => f.ok K) && fn.all fun d => d.ok K) && fc.all fun d => d.ok K) && ex.all fun f => f K) = true from congrArg (fun z : AlE => z.1) c)).2
  exact List.all_eq_true.mp c1 f (List.mem_of_getElem? h)
theorem SaysE.toD (c : SaysE fa fn fc ex K) : He.SaysD fa fn K := by
  have c1 := (Bool.and_eq_true_iff.mp (Bool.and_eq_true_iff.mp (show ((((fa.all fun f => f.ok K) && fn.all fun d => d.ok K) && fc.all fun d => d.ok K) && ex.all fun f => f K) = true from congrArg (fun z : AlE => z.1) c)).1).1
  have c2 : (fn.map fun d => He.fnW K d.at_) = fn.map He.DefD.val := congrArg (fun z : AlE => z.2.1) c
  exact Prod.ext c1 c2
theorem SaysE.sup (c : SaysE fa fn fc ex K) (i : Nat) {d : SupD} (h : fc[i]? = some d := by rfl) : d.ok K = true ∧ fnC K (d.cls, some "__init__") = d.val := by
  have c1 := (Bool.and_eq_true_iff.mp (Bool.and_eq_true_iff.mp (show ((((fa.all fun f => f.ok K) && fn.all fun d => d.ok K) && fc.all fun d => d.ok K) && ex.all fun f => f K) = true from congrArg (fun z : AlE => z.1) c)).1).2
  have e : (fc.map fun d => fnC K (d.cls, some "__init__")) = fc.map SupD.val := congrArg (fun z : AlE => z.2.2) c
  have e2 : (fc.map fun d => fnC K (d.cls, some "__init__"))[i]? = (fc.map SupD.val)[i]? := by rw [e]
  rw [List.getElem?_map, List.getElem?_map, h] at e2
  exact ⟨List.all_eq_true.mp c1 d (List.mem_of_getElem? h), Option.some.inj e2⟩
end
/-- the law's goal behind its head -/
theorem law_end {l : PySem.W.OpenLaw} {k : Nat} {q : Program} {loose : List Str} {XP : (Str → Option Value) → Heap → Prop} {fa : List He.Fa} {fn : List He.DefD} {d : DefRec} {x nm : Str} {F : Fn}
    (hn : l.most = some 63) (hdf : d.params.defaults = []) (hr : Room k callerA) (hnm : d.name = nm) (hF : LawTrue F)
    (hd : ∀ (w : World) (K : PySem.W.Frag) (mg : Str → Option Value) (f : Addr) (h : Heap), K.In h → h.Ns mainGlobals mg → mg nm = some (.ref f) → He.SaysD fa fn K →
      ∃ fd : FuncData, (∀ (s : Shared) (v : Value), BindsTo s fd ⟨[v], []⟩ [(x, v)]) ∧ ∀ base : Heap, K.In base → base.Ns mainGlobals mg → FnOk l.prog w K mg base (L2.CX l.prog w) k f fd [x] (spD K 1 F)) :
    PySem.W.WalkO q loose XP (fun _ h => ∃ K : PySem.W.Frag, K.In h ∧ He.SaysD fa fn K) l.row.toRowW d [] (fun f vs => PySem.call f vs) := by
  refine Att.attach_call hn hdf fun w s₀ s₁ mg mb f o pm cd doc a vs ns G Y ho hd1 hcd hmg hobj hints hlen hg => ?_
  obtain ⟨K, KX, c⟩ := Y
  obtain ⟨fd, hb, hFn⟩ := hd w K mg f _ KX G.T.g (by rw [← hnm]; exact hmg) c
  exact law_call KX G.T.g G.T.b G.T.builtins G.T.nolimit hg hobj hints (Nat.le_trans hlen (by decide)) hr hFn hb (fun H hO hS => law_sp hF H a ns hlen hO hS) fun H e s' z => by
    obtain ⟨_, _, _, _, _, _, _, _, _, _, _, _, z⟩ := z
    exact z
/-- the law's goal behind its head, exceptions too -/
theorem law_endE {l : PySem.W.OpenLaw} {k : Nat} {q : Program} {loose : List Str} {XP : (Str → Option Value) → Heap → Prop} {fa : List He.Fa} {fn : List He.DefD} {fc : List SupD} {ex : List (PySem.W.Frag → Bool)} {d : DefRec} {x nm : Str} {F : Fn}
    (hn : l.most = some 63) (hdf : d.params.defaults = []) (hr : Room k callerA) (hnm : d.name = nm) (hF : LawTrue F)
    (hd : ∀ (w : World) (K : PySem.W.Frag) (mg : Str → Option Value) (f : Addr) (h : Heap), K.In h → h.Ns mainGlobals mg → mg nm = some (.ref f) → SaysE fa fn fc ex K →
      ∃ fd : FuncData, (∀ (s : Shared) (v : Value), BindsTo s fd ⟨[v], []⟩ [(x, v)]) ∧ ∀ base : Heap, K.In base → base.Ns mainGlobals mg → FnOk l.prog w K mg base (L2.CX l.prog w) k f fd [x] (spD K 1 F)) :
    PySem.W.WalkO q loose XP (fun _ h => ∃ K : PySem.W.Frag, K.In h ∧ SaysE fa fn fc ex K) l.row.toRowW d [] (fun f vs => PySem.call f vs) := by
  refine Att.attach_call hn hdf fun w s₀ s₁ mg mb f o pm cd doc a vs ns G Y ho hd1 hcd hmg hobj hints hlen hg => ?_
  obtain ⟨K, KX, c⟩ := Y
  obtain ⟨fd, hb, hFn⟩ := hd w K mg f _ KX G.T.g (by rw [← hnm]; exact hmg) c
  exact law_call KX G.T.g G.T.b G.T.builtins G.T.nolimit hg hobj hints (Nat.le_trans hlen (by decide)) hr hFn hb (fun H hO hS => law_sp hF H a ns hlen hO hS) fun H e s' z => by
    obtain ⟨_, _, _, _, _, _, _, _, _, _, _, _, z⟩ := z
    exact z
/-- the def of a law, from what each def keeps -/
theorem law_def {P : Program} {w : World} {K : PySem.W.Frag} {mg : Str → Option Value} {base : Heap} {k : Nat} {g : GFn} {F : Fn} {f : Addr} (h : GOk P w K mg base k g F) (hm : mg g.name = some (.ref f)) : ∃ fd ps, FnOk P w K mg base (L2.CX P w) k f fd ps (spD K g.n F) := by
  obtain ⟨f', fd, ps, h1, h2, _, _⟩ := h
  rw [hm] at h1
  cases h1
  exact ⟨fd, ps, h2⟩
end DL
namespace K00
open DL
def G_PRIMES : D := .tup (([2, 3, 5, 7, 11, 13, 17, 19, 23, 29, 31] : List Int).map D.int)
/-- slots: 0 value -/
noncomputable def F_is_integer : Fn := fnF [false] 1 (sSeq (sRet (eAnd (e1 (opIsi "int") (eV 0)) (eNot (e1 (opIsi "bool") (eV 0))))) sNx)
/-- slots: 0 value -/
noncomputable def F_is_small_prime : Fn := fnF [false] 1 (sSeq (sRet (eAnd (eCal F_is_integer [.e (eV 0)]) (e2 opIn (eV 0) (eC G_PRIMES)))) sNx)
/-- slots: 0 a, 1 k, 2 total, 3 _ -/
noncomputable def F_power : Fn := fnF [false, false] 4 (sSeq (sSet 2 (eC (.int 1))) (sSeq (sFor (itR1 (eV 1)) (.n 3) (sSeq (sSet 2 (e2 opMul (eV 2) (eV 0))) sNx)) (sSeq (sRet (eV 2)) sNx)))
/-- slots: 0 a, 1 p, 2 k -/
noncomputable def F_inverse : Fn := fnF [false, false] 3 (sSeq (sFor (itR2 (eC (.int 1)) (eV 1)) (.n 2) (sSeq (sIf (tE (e2 opEq (e2 opMod (e2 opMul (eV 0) (eV 2)) (eV 1)) (eC (.int 1)))) (sSeq (sRet (eV 2)) sNx) sNx) sNx)) (sSeq (sRaise1 "Refused" "reason" (eCons (eC (.str "inverse")) eNil)) sNx))
/-- slots: 0 n, 1 found, 2 rest, 3 d, 4 k -/
noncomputable def F_factors : Fn := fnF [false] 5 (sSeq (sSetO 1 (mLst eNil)) (sSeq (sSet 2 (eV 0)) (sSeq (sSet 3 (eC (.int 2))) (sSeq (sWh (tE (e2 opGt (eV 2) (eC (.int 1)))) (sSeq (sSet 4 (eC (.int 0))) (sSeq (sWh (tE (e2 opEq (e2 opMod (eV 2) (eV 3)) (eC (.int 0)))) (sSeq (sSet 2 (e2 opDiv (eV 2) (eV 3))) (sSeq (sSet 4 (e2 opAdd (eV 4) (eC (.int 1)))) sNx))) (sSeq (sIf (tE (e2 opGt (eV 4) (eC (.int 0)))) (sSeq (oUp appL 1 (eTup (eCons (eV 3) (eCons (eV 4) eNil)))) sNx) sNx) (sSeq (sSet 3 (e2 opAdd (eV 3) (eC (.int 1)))) sNx))))) (sSeq (sRet (eB bTuple (eCons (eV 1) eNil))) sNx)))))
/-- slots: 0 n, 1 d -/
noncomputable def F_divisors : Fn := fnF [false] 2 (sSeq (sRet (eB bTuple (eCons (eM (mLc (itR2 (eC (.int 1)) (e2 opAdd (eV 0) (eC (.int 1)))) [1] (.n 1) (tE (e2 opEq (e2 opMod (eV 0) (eV 1)) (eC (.int 0)))) (eV 1))) eNil))) sNx)
/-- slots: 0 _law_script, 1 _law_seed, 2 _law_total, 3 _law_cell -/
noncomputable def F__law_state : Fn := fnF [false] 4 (sSeq (sSet 1 (eC (.int 0))) (sSeq (sSet 2 (eC (.int 1))) (sSeq (sFor (itE (eCut (eV 0) eNoPart (ePart (eC (.int 63))))) (.n 3) (sSeq (sSet 1 (e2 opAdd (e2 opMul (eV 1) (eC (.int 1000003))) (eB bAbs (eCons (eV 3) eNil)))) (sSeq (sSet 2 (e2 opMod (eB bInt (eCons (e2 opAdd (e2 opMul (eV 2) (eC (.int 48271))) (eV 3)) eNil)) (eC (.int 2147483647)))) sNx))) (sSeq (sRetO (mLst (eCons (eV 1) (eCons (eV 2) eNil)))) sNx))))
/-- slots: 0 _law_state_here, 1 _law_m, 2 _law_value -/
noncomputable def F__law_take : Fn := fnF [true, false] 3 (sSeq (sIf (tE (e2 opGt (oIx 0 (eC (.int 0))) (eC (.int 0)))) (sSeq (sSet 2 (e2 opMod (eB bInt (eCons (oIx 0 (eC (.int 0))) eNil)) (eV 1))) (sSeq (DL.oSet 0 (eC (.int 0)) (e2 opDiv (oIx 0 (eC (.int 0))) (eV 1))) (sSeq (sRet (eV 2)) sNx))) sNx) (sSeq (DL.oSet 0 (eC (.int 1)) (e2 opMod (eB bInt (eCons (e2 opAdd (e2 opMul (oIx 0 (eC (.int 1))) (eC (.int 48271))) (eC (.int 11))) eNil)) (eC (.int 2147483647)))) (sSeq (sRet (e2 opMod (eB bInt (eCons (e2 opDiv (oIx 0 (eC (.int 1))) (eC (.int 7))) eNil)) (eV 1))) sNx)))
/-- slots: 0 _law_a, 1 _law_p, 2 e -/
noncomputable def F__law_reason : Fn := fnF [false, false] 3 (sSeq (sTryAs (sSeq (sDrop (eCal F_inverse [.e (eV 0), .e (eV 1)])) sNx) 2 (fun x => ([("Refused", true)] : List (PySem.Str × Bool)).lookup x.c) fun x => match txF (.and (.is1 (.own "Refused") [("Refused", true)]) (.and (.is1 (.ty "ValueError") [("Refused", true)]) (.one (.not (.is2 (.own "Malformed") (.own "NoText") [("Refused", false)]))))) x with | some true => (suF (.two (.c (.str "refused")) (.f ["Refused"] "reason")) x).map some | some false => some none | none => none) (sSeq (sRet (eC .non)) sNx))
/-- slots: 0 _law_n, 1 _law_d -/
noncomputable def F__law_is_prime : Fn := fnF [false] 2 (sSeq (sRet (eAnd (e2 opGt (eV 0) (eC (.int 1))) (e2 opEq (eB bLen (eCons (eM (mLc (itR2 (eC (.int 2)) (eV 0)) [1] (.n 1) (tE (e2 opEq (e2 opMul (e2 opDiv (eV 0) (eV 1)) (eV 1)) (eV 0))) (eV 1))) eNil)) (eC (.int 0))))) sNx)
/-- slots: 0 _law_script, 1 _law_state_here, 2 _law_p, 3 _law_a, 4 _law_b, 5 _law_k, 6 _law_total, 7 _law_turn, 8 _law_n, 9 _law_due, 10 _law_d, 11 _law_most, 12 _law_m, 13 _law_told, 14 _law_value -/
noncomputable def F_law : Fn := fnF [false] 15 (sSeq (sSetO 1 (mCal F__law_state [.e (eV 0)])) (sSeq (sSet 2 (e2 opIx (eM (mLst (eCons (eC (.int 2)) (eCons (eC (.int 3)) (eCons (eC (.int 5)) (eCons (eC (.int 7)) (eCons (eC (.int 11)) (eCons (eC (.int 13)) (eCons (eC (.int 17)) (eCons (eC (.int 19)) (eCons (eC (.int 23)) (eCons (eC (.int 29)) (eCons (eC (.int 31)) eNil))))))))))))) (eCal F__law_take [.o 1, .e (eC (.int 11))]))) (sSeq (sSet 3 (e2 opSub (eCal F__law_take [.o 1, .e (eC (.int 2001))]) (eC (.int 1000)))) (sSeq (sIf (tE (e2 opEq (e2 opMod (eB bInt (eCons (eV 3) eNil)) (eV 2)) (eC (.int 0)))) (sSeq (sIf (tE (e2 opNe (eCal F__law_reason [.e (eV 3), .e (eV 2)]) (eTup (eCons (eC (.str "refused")) (eCons (eC (.str "inverse")) eNil))))) (sSeq (sRet (eC (.bl false))) sNx) sNx) sNx) (sSeq (sSet 4 (eCal F_inverse [.e (eV 3), .e (eV 2)])) (sSeq (sIf (tOrD (tNotD (tE (eChain opLt opLt (eC (.int 0)) (eV 4) (eV 2)))) (tE (e2 opNe (e2 opMod (eB bInt (eCons (e2 opMul (eV 3) (eV 4)) eNil)) (eV 2)) (eC (.int 1))))) (sSeq (sRet (eC (.bl false))) sNx) sNx) sNx))) (sSeq (sSet 5 (eCal F__law_take [.o 1, .e (eC (.int 9))])) (sSeq (sSet 6 (eC (.int 1))) (sSeq (sFor (itR1 (eV 5)) (.n 7) (sSeq (sSet 6 (e2 opMul (eV 6) (eV 3))) sNx)) (sSeq (sSet 8 (e2 opAdd (eC (.int 1)) (eCal F__law_take [.o 1, .e (eC (.int 300))]))) (sSeq (sSetO 9 (mLst eNil)) (sSeq (sFor (itR2 (eC (.int 2)) (e2 opAdd (eV 8) (eC (.int 1)))) (.n 10) (sSeq (sSet 11 (eB bLen (eCons (eM (mLc (itR2 (eC (.int 1)) (eC (.int 9))) [5] (.n 5) (tE (e2 opEq (e2 opMul (e2 opDiv (eV 8) (eCal F_power [.e (eV 10), .e (eV 5)])) (eCal F_power [.e (eV 10), .e (eV 5)])) (eV 8))) (eV 5))) eNil))) (sSeq (sIf (tAndD (tE (eCal F__law_is_prime [.e (eV 10)])) (tE (e2 opGt (eV 11) (eC (.int 0))))) (sSeq (oUp appL 9 (eTup (eCons (eV 10) (eCons (eV 11) eNil)))) sNx) sNx) sNx))) (sSeq (sIf (tOrD (tE (e2 opNe (eCal F_power [.e (eV 3), .e (eV 5)]) (eV 6))) (tOrD (tE (e2 opNe (eCal F_divisors [.e (eV 8)]) (eB bTuple (eCons (eM (mLc (itR2 (eC (.int 1)) (e2 opAdd (eV 8) (eC (.int 1)))) [10] (.n 10) (tE (e2 opEq (e2 opMul (e2 opDiv (eV 8) (eV 10)) (eV 10)) (eV 8))) (eV 10))) eNil)))) (tE (e2 opNe (eCal F_factors [.e (eV 8)]) (eB bTuple (eCons (eV 9) eNil)))))) (sSeq (sRet (eC (.bl false))) sNx) sNx) (sSeq (sSet 12 (e2 opSub (eCal F__law_take [.o 1, .e (eC (.int 60))]) (eC (.int 5)))) (sSeq (sSet 13 (eCal F_is_small_prime [.e (eV 12)])) (sSeq (sIf (tOrD (tNotD (tE (e1 (opIsi "bool") (eV 13)))) (tE (e2 opNe (eV 13) (eAnd (e2 opLt (eV 12) (eC (.int 32))) (eCal F__law_is_prime [.e (eV 12)]))))) (sSeq (sRet (eC (.bl false))) sNx) sNx) (sSeq (sFor (itE (eM (mLst (eCons (eC (.bl true)) (eCons (eC (.bl false)) (eCons (eC .non) (eCons (eC (.str "2")) (eCons (eTup (eCons (eC (.int 2)) eNil)) (eCons (eM (mLst (eCons (eC (.int 2)) eNil))) (eCons (eTup eNil) eNil)))))))))) (.n 14) (sSeq (sIf (tOrD (tE (e2 opIsnt (eCal F_is_integer [.e (eV 14)]) (eC (.bl false)))) (tE (e2 opIsnt (eCal F_is_small_prime [.e (eV 14)]) (eC (.bl false))))) (sSeq (sRet (eC (.bl false))) sNx) sNx) sNx)) (sSeq (sRet (e2 opIs (eCal F_is_integer [.e (eV 3)]) (eC (.bl true)))) sNx))))))))))))))))
end K00
namespace K00
open DL
abbrev S2 := Int × Int
def sO (s : S2) : Slot := .o [.int s.1, .int s.2]
theorem F__law_take_eq (s : S2) {m : Int} (h0 : 0 < m) (h1 : m < 1073741824) : ∃ (s' : S2) (v : Int), 0 ≤ v ∧ v < m ∧ F__law_take [sO s, .v (.int m)] = .ok (.v (.int v)) [sO s', .no] := by
  have o := okDv_of h0 h1
  have o7 := okDv_of (a := 7) (by omega) (by omega)
  have sm : (smallF s.2 || smallF 48271) = true := sm_r (by rw [t64]; omega) (by rw [t64]; omega)
  by_cases hp : 0 < s.1
  · refine ⟨(s.1 / m, s.2), s.1 % m, Int.emod_nonneg _ (by omega), Int.emod_lt_of_pos _ h0, ?_⟩
    unfold F__law_take fnF sO
    simp [hp, h0, o, keepO, setL, ixOf]
  · refine ⟨(s.1, (s.2 * 48271 + 11) % 2147483647), ((s.2 * 48271 + 11) % 2147483647 / 7) % m, Int.emod_nonneg _ (by omega), Int.emod_lt_of_pos _ h0, ?_⟩
    unfold F__law_take fnF sO
    simp [hp, h0, o, o7, sm, keepO, setL, ixOf, atL]
theorem F__law_state_eq (ns : List Int) : ∃ s : S2, F__law_state [.v (.scr ns)] = .ok (.o [.int s.1, .int s.2]) [.no] := by
  obtain ⟨ρ, e1, x, y, t, e2⟩ := for_inv (g := .n 3) (body := (sSeq (sSet 1 (e2 opAdd (e2 opMul (eV 1) (eC (.int 1000003))) (eB bAbs (eCons (eV 3) eNil)))) (sSeq (sSet 2 (e2 opMod (eB bInt (eCons (e2 opAdd (e2 opMul (eV 2) (eC (.int 48271))) (eV 3)) eNil)) (eC (.int 2147483647)))) sNx)))
    (fun _ ρ => ∃ (x y : Int) (t : Slot), ρ = [.v (.scr ns), .v (.int x), .v (.int y), t]) (cutL (iL ns) none (some 63)) 0 [.v (.scr ns), .v (.int 0), .v (.int 1), .no] ⟨_, _, _, rfl⟩ (fun i x ρ hx ⟨a, b, t, e⟩ => by
      subst e
      obtain ⟨c, _, rfl⟩ := List.mem_map.mp (List.mem_of_mem_drop (List.mem_of_mem_take (List.mem_of_getElem? hx)))
      have s1 : (smallF a || smallF 1000003) = true := sm_r (by rw [t64]; omega) (by rw [t64]; omega)
      have s2 : (smallF b || smallF 48271) = true := sm_r (by rw [t64]; omega) (by rw [t64]; omega)
      exact ⟨_, [.v (.scr ns), .v (.int (a * 1000003 + if c < 0 then -c else c)), .v (.int ((b * 48271 + c) % 2147483647)), .v (.int c)], .nx, rfl, by simp [s1, s2], .inl rfl, _, _, _, rfl⟩)
  subst e2
  refine ⟨(x, y), ?_⟩
  unfold F__law_state fnF
  have oc : opCut none (some 63) (.scr ns) = some (.lst (cutL (iL ns) none (some 63))) := rfl
  simp [oc, e1, keepO]
theorem seq_nx {s t : RS} {ρ ρ1 : Env} (h : s ρ = .ok .nx ρ1) : sSeq s t ρ = t ρ1 := by
  show (s ρ).bind _ = _
  rw [h]
  rfl
mutual
theorem eq_self : ∀ d : D, D.fin d = true → D.eq d d = true
  | .non, _ => rfl
  | .bl b, _ => by show (b == b) = true; simp
  | .int i, _ => by show (i == i) = true; simp
  | .str x, _ => by show (x == x) = true; simp
  | .tup xs, h => eqs_self xs h
  | .lst xs, h => eqs_self xs h
  | .obj _ _ _, h => by cases h
  | .scr _, h => by cases h
theorem eqs_self : ∀ ds : List D, D.fins ds = true → D.eqs ds ds = true
  | [], _ => rfl
  | d :: ds, h => by
    obtain ⟨h1, h2⟩ := Bool.and_eq_true_iff.mp (show (D.fin d && D.fins ds) = true from h)
    show (D.eq d d && D.eqs ds ds) = true
    rw [eq_self d h1, eqs_self ds h2]
    rfl
end
theorem opNe_self {d : D} (h : D.shp d = true) : opNe d d = some (.bl false) := by
  unfold opNe
  have := eq_self d (Bool.and_eq_true_iff.mp h).1
  simp [h, this]

/-! ### while -/
theorem whF_up {t : RT} {body : RS} : ∀ (n : Nat) (ρ : Env), (whF t body n ρ).isBad = false → whF t body (n + 1) ρ = whF t body n ρ
  | 0, ρ, h => by cases h
  | n + 1, ρ, h => by
    unfold whF at h ⊢
    cases ht : t ρ with
    | bad =>
      rw [ht] at h
      cases h
    | exc x ρ1 => rfl
    | ok k ρ1 =>
      rw [ht] at h
      rw [bind_ok'] at h ⊢
      cases k with
      | false => rfl
      | true =>
        rw [if_pos rfl] at h
        rw [if_pos rfl, bind_ok', if_pos rfl]
        cases hb : body ρ1 with
        | bad =>
          rw [hb] at h
          cases h
        | exc x ρ2 => rfl
        | ok f ρ2 =>
          rw [hb] at h
          rw [bind_ok'] at h ⊢
          rw [bind_ok']
          cases f with
          | nx => exact whF_up n ρ2 h
          | ct => exact whF_up n ρ2 h
          | _ => rfl
theorem whF_ge {t : RT} {body : RS} {n : Nat} {ρ : Env} (h : (whF t body n ρ).isBad = false) : ∀ m, n ≤ m → whF t body m ρ = whF t body n ρ := by
  intro m hm
  obtain ⟨k, rfl⟩ : ∃ k, m = n + k := ⟨m - n, by omega⟩
  clear hm
  induction k with
  | zero => rfl
  | succ k ih =>
    rw [← Nat.add_assoc, whF_up (n + k) ρ (by rw [ih]; exact h), ih]
theorem sWh_of {t : RT} {body : RS} {n : Nat} {ρ : Env} (h : (whF t body n ρ).isBad = false) : sWh t body ρ = whF t body n ρ := by
  have ex : ∃ n, (whF t body n ρ).isBad = false := ⟨n, h⟩
  unfold sWh
  rw [dif_pos ex]
  have h2 := ex.choose_spec
  rcases Nat.le_total n ex.choose with z | z
  · exact whF_ge h _ z
  · exact (whF_ge h2 _ z).symm
theorem sWh_ex {t : RT} {body : RS} {ρ : Env} (h : (sWh t body ρ).isBad = false) : ∃ n, whF t body n ρ = sWh t body ρ ∧ (whF t body n ρ).isBad = false := by
  by_cases ex : ∃ n, (whF t body n ρ).isBad = false
  · exact ⟨ex.choose, by unfold sWh; rw [dif_pos ex], ex.choose_spec⟩
  · unfold sWh at h
    rw [dif_neg ex] at h
    cases h
theorem wh_stop {t : RT} {body : RS} {ρ ρ1 : Env} (h : t ρ = .ok false ρ1) : sWh t body ρ = .ok .nx ρ1 := by
  have e : whF t body 1 ρ = .ok .nx ρ1 := by
    unfold whF
    rw [h]
    rfl
  rw [sWh_of (n := 1) (by rw [e]; rfl), e]
theorem wh_step {t : RT} {body : RS} {ρ ρ1 ρ2 : Env} {r : Res Fl} (h : t ρ = .ok true ρ1) (hb : body ρ1 = .ok .nx ρ2) (hr : sWh t body ρ2 = r) (hn : r.isBad = false) : sWh t body ρ = r := by
  subst hr
  obtain ⟨n, h1, h2⟩ := sWh_ex hn
  have e : whF t body (n + 1) ρ = whF t body n ρ2 := by
    conv => lhs; unfold whF
    rw [h, bind_ok', if_pos rfl, hb]
    rfl
  rw [sWh_of (n := n + 1) (by rw [e]; exact h2), e, h1]
/-! ### inverse -/
def Pr (p : Int) : Prop := p = 2 ∨ p = 3 ∨ p = 5 ∨ p = 7 ∨ p = 11 ∨ p = 13 ∨ p = 17 ∨ p = 19 ∨ p = 23 ∨ p = 29 ∨ p = 31
theorem Pr.pos {p : Int} (h : Pr p) : 1 < p ∧ p < 32 := by rcases h with h | h | h | h | h | h | h | h | h | h | h <;> omega
theorem Pr.inv {p a : Int} (h : Pr p) (ha : a % p ≠ 0) : ∃ k : Nat, (k : Int) < p ∧ 0 < k ∧ a * k % p = 1 := by
  have key : ∀ q : Nat, (q = 2 ∨ q = 3 ∨ q = 5 ∨ q = 7 ∨ q = 11 ∨ q = 13 ∨ q = 17 ∨ q = 19 ∨ q = 23 ∨ q = 29 ∨ q = 31) → ∀ b : Nat, b < q → 0 < b → ∃ k, k < q ∧ 0 < k ∧ b * k % q = 1 := by
    intro q hq
    rcases hq with rfl | rfl | rfl | rfl | rfl | rfl | rfl | rfl | rfl | rfl | rfl <;> decide +kernel
  have hp := h.pos
  have h0 : 0 ≤ a % p := Int.emod_nonneg _ (by omega)
  have h1 : a % p < p := Int.emod_lt_of_pos _ (by omega)
  obtain ⟨q, rfl⟩ : ∃ q : Nat, p = q := ⟨p.toNat, by omega⟩
  obtain ⟨b, hb⟩ : ∃ b : Nat, a % (q : Int) = b := ⟨(a % (q : Int)).toNat, by omega⟩
  obtain ⟨k, h2, h3, h4⟩ := key q (by rcases h with h | h | h | h | h | h | h | h | h | h | h <;> omega) b (by omega) (by omega)
  refine ⟨k, by omega, h3, ?_⟩
  rw [Int.mul_emod, hb, ← Int.natCast_emod k q, ← Int.natCast_mul, ← Int.natCast_emod, Nat.mul_mod_mod, h4]
  rfl
noncomputable abbrev invB : RS := (sSeq (sIf (tE (e2 opEq (e2 opMod (e2 opMul (eV 0) (eV 2)) (eV 1)) (eC (.int 1)))) (sSeq (sRet (eV 2)) sNx) sNx) sNx)
theorem inv_step {a p k : Int} {s : Slot} (ha : -100000 < a ∧ a < 100000) (hp : 0 < p) (h : ¬ a * k % p = 1) : invB [.v (.int a), .v (.int p), .v (.int k)] = .ok .nx [.v (.int a), .v (.int p), .v (.int k)] := by
  have hb : (a * k % p == 1) = false := by simpa using h
  simp [sm_l (a := a) (b := k) (by rw [t64]; omega) (by rw [t64]; omega), hp, hb]
theorem inv_hit {a p k : Int} {s : Slot} (ha : -100000 < a ∧ a < 100000) (hp : 0 < p) (h : a * k % p = 1) : invB [.v (.int a), .v (.int p), .v (.int k)] = .ok (.rt (.int k)) [.v (.int a), .v (.int p), .v (.int k)] := by
  have hb : (a * k % p == 1) = true := by simpa using h
  simp [sm_l (a := a) (b := k) (by rw [t64]; omega) (by rw [t64]; omega), hp, hb]
theorem F_inverse_ok {a p : Int} (h : Pr p) (ha : -100000 < a ∧ a < 100000) (hn : a % p ≠ 0) : ∃ b : Int, 0 < b ∧ b < p ∧ a * b % p = 1 ∧ F_inverse [.v (.int a), .v (.int p)] = .ok (.v (.int b)) [.no, .no] := by
  have hp := h.pos
  obtain ⟨k0, q1, q2, q3⟩ := h.inv hn
  obtain ⟨m, hm, hm1, hm2⟩ := least (P := fun k : Nat => a * ((1 + k : Nat) : Int) % p = 1) (n := k0 - 1) (by rw [show 1 + (k0 - 1) = k0 by omega]; exact q3)
  have hm1' : a * (1 + (m : Int)) % p = 1 := by
    have := hm1
    rwa [Int.natCast_add] at this
  obtain ⟨ρ, e1, s, u⟩ := for_ret (g := .n 2) (body := invB) (d := .int (1 + (m : Int))) (fun _ ρ => ∃ s, ρ = [.v (.int a), .v (.int p), s]) (rangeL 1 (p - 1).toNat) 0 m [.v (.int a), .v (.int p), .no] ⟨_, rfl⟩ (by rw [range_len]; omega) (fun k x ρ hk hx ⟨s, e⟩ => by
    subst e
    rw [range_at (by omega)] at hx
    cases hx
    refine ⟨_, _, .nx, rfl, inv_step (s := s) ha (by omega) ?_, .inl rfl, _, rfl⟩
    have := hm2 k hk
    rwa [Int.natCast_add] at this) (fun x ρ hx ⟨s, e⟩ => by
    subst e
    rw [range_at (by omega)] at hx
    cases hx
    exact ⟨_, _, rfl, inv_hit (s := s) ha (by omega : 0 < p) hm1', _, rfl⟩)
  refine ⟨1 + (m : Int), by omega, by omega, hm1', ?_⟩
  have o1 := ok62_of (a := 1) (by omega) (by omega)
  have o2 := ok62_of (a := p) (by omega) (by omega)
  rw [show (p - 1).toNat = p.toNat - 1 by omega] at e1
  exact fn_rt (k := 2) rfl rfl (by simp [o1, o2, e1])
theorem F_inverse_exc {a p : Int} (h : Pr p) (ha : -100000 < a ∧ a < 100000) (hn : a % p = 0) : F_inverse [.v (.int a), .v (.int p)] = .exc ⟨"Refused", ["reason"], [.str "inverse"]⟩ [.no, .no] := by
  have hp := h.pos
  obtain ⟨ρ, e1, s, u⟩ := for_inv (g := .n 2) (body := invB) (fun _ ρ => ∃ s, ρ = [.v (.int a), .v (.int p), s]) (rangeL 1 (p - 1).toNat) 0 [.v (.int a), .v (.int p), .no] ⟨_, rfl⟩ (fun k x ρ hx ⟨s, e⟩ => by
    subst e
    have hk := (List.getElem?_eq_some_iff.mp hx).1
    rw [range_len] at hk
    rw [range_at hk] at hx
    cases hx
    refine ⟨_, _, .nx, rfl, inv_step (s := s) ha (by omega) ?_, .inl rfl, _, rfl⟩
    rw [Int.mul_emod, hn, Int.zero_mul, Int.zero_emod]
    omega)
  subst u
  have o1 := ok62_of (a := 1) (by omega) (by omega)
  have o2 := ok62_of (a := p) (by omega) (by omega)
  rw [show (p - 1).toNat = p.toNat - 1 by omega] at e1
  unfold F_inverse fnF
  simp [o1, o2, e1, sRaise1, keepO]
theorem F__law_reason_eq {a p : Int} (h : Pr p) (ha : -100000 < a ∧ a < 100000) (hn : a % p = 0) : F__law_reason [.v (.int a), .v (.int p)] = .ok (.v (.tup [.str "refused", .str "inverse"])) [.no, .no] := by
  have c := F_inverse_exc h ha hn
  unfold F__law_reason fnF
  have e2 : (sSeq (sDrop (eCal F_inverse [.e (eV 0), .e (eV 1)])) sNx) [.v (.int a), .v (.int p), .no] = .exc ⟨"Refused", ["reason"], [.str "inverse"]⟩ [.v (.int a), .v (.int p), .no] := by simp [c]
  simp only [List.length_cons, List.length_nil, List.cons_append, List.nil_append]
  show (match (sSeq _ _) [Slot.v (D.int a), .v (.int p), .no] with
    | .ok (.rt d) ρ => Res.ok (Ret.v d) (keepO [false, false] ρ)
    | .ok (.ro xs) ρ => .ok (.o xs) (keepO [false, false] ρ)
    | .ok .nx ρ => .ok (.v .non) (keepO [false, false] ρ)
    | .ok _ _ => .bad
    | .exc x ρ => .exc x (keepO [false, false] ρ)
    | .bad => .bad) = _
  rw [sSeq_ap]
  unfold sTryAs
  rw [e2]
  rfl
/-! ### powers, divisors -/
theorem F_power_eq {a : Int} {k : Nat} (ha : -100000 < a ∧ a < 100000) (hk : k < 1000) : F_power [.v (.int a), .v (.int (k : Int))] = .ok (.v (.int (a ^ k))) [.no, .no] := by
  obtain ⟨ρ, e1, s, u⟩ := for_inv (g := .n 3) (body := (sSeq (sSet 2 (e2 opMul (eV 2) (eV 0))) sNx)) (fun j ρ => ∃ s, ρ = [.v (.int a), .v (.int (k : Int)), .v (.int (a ^ j)), s]) (rangeL 0 k) 0 [.v (.int a), .v (.int (k : Int)), .v (.int 1), .no] ⟨.no, by rw [Int.pow_zero]⟩ (fun j x ρ hx ⟨s, e⟩ => by
    subst e
    rw [Nat.zero_add]
    have sm : (smallF (a ^ j) || smallF a) = true := sm_r (by rw [t64]; omega) (by rw [t64]; omega)
    exact ⟨_, [.v (.int a), .v (.int (k : Int)), .v (.int (a ^ (j + 1))), .v x], .nx, rfl, by simp [sm, Int.pow_succ], .inl rfl, _, rfl⟩)
  rw [Nat.zero_add, range_len] at u
  subst u
  have on := ok62_nat (n := k) (by omega)
  exact fn_rt (k := 2) rfl rfl (by simp [on, e1])
def divL (n : Nat) : List Int := ((List.range n).map fun i : Nat => 1 + (i : Int)).filter fun d => (n : Int) % d == 0
theorem range1 (lo : Int) (n : Nat) : rangeL lo n = ((List.range n).map fun i : Nat => lo + (i : Int)).map D.int := by
  unfold rangeL
  rw [List.map_map]
  rfl
theorem F_divisors_eq {n : Nat} (hn : n < 1000) : F_divisors [.v (.int (n : Int))] = .ok (.v (tI (divL n))) [.no] := by
  have szc := szL_big
  have o1 := ok62_of (a := 1) (by omega) (by omega)
  have o2 := ok62_of (a := (n : Int) + 1) (by omega) (by omega)
  have e0 : ((n : Int) + 1 - 1).toNat = n := by omega
  have k1 := mLc_f (it := itR2 (eC (.int 1)) (e2 opAdd (eV 0) (eC (.int 1)))) (own := [1]) (t := .n 1) (tt := tE (e2 opEq (e2 opMod (eV 0) (eV 1)) (eC (.int 0)))) (a := eV 1) (ρ := [.v (.int (n : Int)), .no]) (ρ0 := [.v (.int (n : Int)), .no]) (emb := D.int) (xs := (List.range n).map fun i : Nat => 1 + (i : Int))
    (fun d => (n : Int) % d == 0) D.int (by simp [o1, o2, e0, range1]) (by simp; omega) (fun d hd => by
      obtain ⟨i, hi, rfl⟩ := List.mem_map.mp hd
      have hp : (0 : Int) < 1 + (i : Int) := by omega
      exact ⟨_, rfl, rfl, by simp [hp], fun _ => by simp⟩)
  have e1 : (((List.range n).map fun i : Nat => 1 + (i : Int)).filter fun d => (n : Int) % d == 0).map D.int = iL (divL n) := rfl
  rw [e1] at k1
  exact fn_rt (k := 1) rfl rfl (by simp [k1] <;> rfl)
end K00
namespace K00
open DL
/-! ### factors -/
def dv (d : Nat) : Nat → Nat → Nat → Nat × Nat
  | 0, r, k => (r, k)
  | f + 1, r, k => if r % d = 0 then dv d f (r / d) (k + 1) else (r, k)
def fo : Nat → Nat → Nat → List (Nat × Nat) → Option (List (Nat × Nat))
  | 0, _, _, _ => none
  | f + 1, d, r, fs => if 1 < r then fo f (d + 1) (dv d 9 r 0).1 (if 0 < (dv d 9 r 0).2 then fs ++ [(d, (dv d 9 r 0).2)] else fs) else some fs
def prs (fs : List (Nat × Nat)) : List D := fs.map fun q => D.tup [.int (q.1 : Int), .int (q.2 : Int)]
theorem prs_app {fs : List (Nat × Nat)} {d k : Nat} : prs (fs ++ [(d, k)]) = prs fs ++ [D.tup [.int (d : Int), .int (k : Int)]] := by simp [prs]
abbrev fE (n : D) (fs : List (Nat × Nat)) (r d : Nat) (s4 : Slot) : Env := [.v n, .o (prs fs), .v (.int (r : Int)), .v (.int (d : Int)), s4]
noncomputable abbrev inT : RT := tE (e2 opEq (e2 opMod (eV 2) (eV 3)) (eC (.int 0)))
noncomputable abbrev inB : RS := sSeq (sSet 2 (e2 opDiv (eV 2) (eV 3))) (sSeq (sSet 4 (e2 opAdd (eV 4) (eC (.int 1)))) sNx)
theorem dv_pos {d : Nat} (hd : 2 ≤ d) : ∀ (f r k : Nat), 1 ≤ r → 1 ≤ (dv d f r k).1 ∧ (dv d f r k).1 ≤ r
  | 0, r, k, h => ⟨h, Nat.le_refl _⟩
  | f + 1, r, k, h => by
    unfold dv
    by_cases hm : r % d = 0
    · rw [if_pos hm]
      have h1 : 1 ≤ r / d := by
        have := Nat.div_add_mod r d
        rw [hm] at this
        rcases Nat.eq_zero_or_pos (r / d) with z | z
        · rw [z] at this
          omega
        · exact z
      have := dv_pos hd f (r / d) (k + 1) h1
      exact ⟨this.1, Nat.le_trans this.2 (Nat.div_le_self _ _)⟩
    · rw [if_neg hm]
      exact ⟨h, Nat.le_refl _⟩
theorem beq_cast {a b : Nat} : ((a : Int) == (b : Int)) = (a == b) := by
  rw [Bool.eq_iff_iff, beq_iff_eq, beq_iff_eq]
  omega
theorem inner_eq {n : D} {fs : List (Nat × Nat)} {d : Nat} (hd : 2 ≤ d) (hd2 : d < 1000) : ∀ (f r k : Nat), 1 ≤ r → r < 2 ^ f → sWh inT inB (fE n fs r d (.v (.int (k : Int)))) = .ok .nx (fE n fs (dv d f r k).1 d (.v (.int ((dv d f r k).2 : Int))))
  | 0, r, k, h, h2 => by simp at h2; omega
  | f + 1, r, k, h, h2 => by
    have hdp : (0 : Int) < (d : Int) := by omega
    have hm0 : (((r : Int) % (d : Int)) == (0 : Int)) = (r % d == 0) := by
      rw [← Int.natCast_emod]
      exact beq_cast (b := 0)
    unfold dv
    by_cases hm : r % d = 0
    · rw [if_pos hm]
      have hb : (r % d == 0) = true := by simpa using hm
      rw [hb] at hm0
      have h1 : 1 ≤ r / d := by
        have := Nat.div_add_mod r d
        rw [hm] at this
        rcases Nat.eq_zero_or_pos (r / d) with z | z
        · rw [z] at this
          omega
        · exact z
      have h3 : r / d < 2 ^ f := by
        rw [Nat.pow_succ] at h2
        refine Nat.div_lt_of_lt_mul ?_
        calc r < 2 ^ f * 2 := h2
          _ ≤ 2 ^ f * d := Nat.mul_le_mul_left _ hd
          _ = d * 2 ^ f := Nat.mul_comm _ _
      have ih := inner_eq (n := n) (fs := fs) hd hd2 f (r / d) (k + 1) h1 h3
      have od := okDv_of (a := (d : Int)) hdp (by omega)
      refine wh_step (ρ1 := fE n fs r d (.v (.int (k : Int)))) (ρ2 := fE n fs (r / d) d (.v (.int ((k + 1 : Nat) : Int)))) ?_ ?_ ih rfl
      · simp [hdp, show 0 < d by omega, hm0]
      · simp [od]
    · rw [if_neg hm]
      have hb : (r % d == 0) = false := by simpa using hm
      rw [hb] at hm0
      exact wh_stop (by simp [hdp, show 0 < d by omega, hm0])
noncomputable abbrev ouB : RS := sSeq (sSet 4 (eC (.int 0))) (sSeq (sWh inT inB) (sSeq (sIf (tE (e2 opGt (eV 4) (eC (.int 0)))) (sSeq (oUp appL 1 (eTup (eCons (eV 3) (eCons (eV 4) eNil)))) sNx) sNx) (sSeq (sSet 3 (e2 opAdd (eV 3) (eC (.int 1)))) sNx)))
theorem outer_eq {n : D} : ∀ (f d r : Nat) (fs res : List (Nat × Nat)) (s4 : Slot), fo f d r fs = some res → 2 ≤ d → d + f < 1000 → 1 ≤ r → r < 512 → fs.length + f < 2000 → ∃ (r' d' : Nat) (s' : Slot), sWh (tE (e2 opGt (eV 2) (eC (.int 1)))) ouB (fE n fs r d s4) = .ok .nx (fE n res r' d' s')
  | 0, _, _, _, _, _, h, _, _, _, _, _ => by cases h
  | f + 1, d, r, fs, res, s4, h, hd, hdf, hr, hr2, hl => by
    have szc := szL_big
    unfold fo at h
    by_cases h1 : 1 < r
    · rw [if_pos h1] at h
      have b1 : decide ((1 : Int) < (r : Int)) = true := decide_eq_true (by omega)
      have p1 := dv_pos hd 9 r 0 hr
      have ii := fun fs => inner_eq (n := n) (fs := fs) hd (by omega) 9 r 0 hr (by omega)
      generalize dv d 9 r 0 = q at h p1 ii
      obtain ⟨r1, k1⟩ := q
      obtain ⟨r', d', s', e⟩ := outer_eq f (d + 1) r1 (if 0 < k1 then fs ++ [(d, k1)] else fs) res (.v (.int (k1 : Int))) h (by omega) (by omega) p1.1 (by have h5 : r1 ≤ r := p1.2; omega) (by split <;> (try simp) <;> omega)
      refine ⟨r', d', s', wh_step (ρ1 := fE n fs r d s4) (ρ2 := fE n (if 0 < k1 then fs ++ [(d, k1)] else fs) r1 (d + 1) (.v (.int (k1 : Int)))) ?_ ?_ e rfl⟩
      · by_cases h2 : 1 < r
        · simp [b1, h2]
        · exact absurd h1 h2
      · unfold ouB
        rw [seq_nx (ρ1 := fE n fs r d (.v (.int ((0 : Nat) : Int)))) (by simp)]
        rw [seq_nx (ρ1 := fE n fs r1 d (.v (.int (k1 : Int)))) (ii fs)]
        have ap := fun x => (show appL (prs fs) x = some (prs fs ++ [x]) by
          unfold appL
          rw [if_pos (by simp [prs]; omega)])
        by_cases hk : 0 < k1
        · have b2 : decide ((0 : Int) < (k1 : Int)) = true := decide_eq_true (by omega)
          rw [if_pos hk]
          rw [seq_nx (ρ1 := fE n (fs ++ [(d, k1)]) r1 d (.v (.int (k1 : Int)))) (by simp [hk, b2, ap, prs_app])]
          simp
        · have b2 : decide ((0 : Int) < (k1 : Int)) = false := decide_eq_false (by omega)
          rw [if_neg hk]
          rw [seq_nx (ρ1 := fE n fs r1 d (.v (.int (k1 : Int)))) (by simp [hk, b2])]
          simp
    · rw [if_neg h1] at h
      cases h
      have b1 : decide ((1 : Int) < (r : Int)) = false := decide_eq_false (by omega)
      exact ⟨r, d, s4, wh_stop (by simp [b1, h1])⟩
theorem F_factors_eq {n : Nat} {res : List (Nat × Nat)} (h : fo 400 2 n [] = some res) (h1 : 1 ≤ n) (h2 : n < 512) : F_factors [.v (.int (n : Int))] = .ok (.v (.tup (prs res))) [.no] := by
  obtain ⟨r', d', s', e⟩ := outer_eq (n := .int (n : Int)) 400 2 n [] res .no h (by omega) (by omega) h1 h2 (by simp)
  refine fn_rt (k := 1) rfl (ρ0 := [.v (.int (n : Int)), .no, .no, .no, .no]) rfl ?_
  rw [seq_nx (ρ1 := [.v (.int (n : Int)), .o [], .no, .no, .no]) (by simp)]
  rw [seq_nx (ρ1 := [.v (.int (n : Int)), .o [], .v (.int (n : Int)), .no, .no]) (by simp)]
  rw [seq_nx (ρ1 := fE (.int (n : Int)) [] n 2 .no) (by simp [prs])]
  rw [seq_nx e]
  simp
/-! ### primes -/
def primeB (n : Nat) : Bool := decide (1 < n) && ((List.range (n - 2)).filter fun i => n / (i + 2) * (i + 2) == n).length == 0
def MASK : Nat := 15934017845547527751939463349734315575032128066792749677883109155917229132242220982347948
def primeT (n : Nat) : Bool := Nat.testBit MASK n
theorem prime_tab : (List.range 303).all (fun n => primeB n == primeT n) = true := by decide +kernel
theorem prime_eq {n : Nat} (h : n < 303) : primeB n = primeT n := by
  have := List.all_eq_true.mp prime_tab n (List.mem_range.mpr h)
  simpa using this
theorem F__law_is_prime_eq {n : Nat} (hn : n < 1000) : F__law_is_prime [.v (.int (n : Int))] = .ok (.v (.bl (primeB n))) [.no] := by
  have szc := szL_big
  by_cases h1 : 1 < n
  · have b1 : decide ((1 : Int) < (n : Int)) = true := decide_eq_true (by omega)
    have o1 := ok62_of (a := 2) (by omega) (by omega)
    have o2 := ok62_of (a := (n : Int)) (by omega) (by omega)
    have e0 : ((n : Int) - 2).toNat = n - 2 := by omega
    have k1 := mLc_f (it := itR2 (eC (.int 2)) (eV 0)) (own := [1]) (t := .n 1) (tt := tE (e2 opEq (e2 opMul (e2 opDiv (eV 0) (eV 1)) (eV 1)) (eV 0))) (a := eV 1) (ρ := [.v (.int (n : Int)), .no]) (ρ0 := [.v (.int (n : Int)), .no]) (emb := fun i : Nat => D.int (2 + (i : Int))) (xs := List.range (n - 2))
      (fun i => n / (i + 2) * (i + 2) == n) (fun i : Nat => D.int (2 + (i : Int))) (by simp [o1, o2, e0, rangeL]) (by simp; omega) (fun i hi => by
        have hi := List.mem_range.mp hi
        have od := okDv_of (a := 2 + (i : Int)) (by omega) (by omega)
        have sm : (smallF ((n : Int) / (2 + (i : Int))) || smallF (2 + (i : Int))) = true := sm_r (by rw [t64]; omega) (by rw [t64]; omega)
        have e : (((n : Int) / (2 + (i : Int)) * (2 + (i : Int))) == (n : Int)) = (n / (i + 2) * (i + 2) == n) := by
          rw [show (2 + (i : Int)) = ((i + 2 : Nat) : Int) by omega, ← Int.natCast_ediv, ← Int.natCast_mul]
          exact beq_cast
        exact ⟨_, rfl, rfl, by simp [od, sm, e], fun _ => by simp⟩)
    refine fn_rt (k := 1) rfl (ρ0 := [.v (.int (n : Int)), .no]) rfl ?_
    have lenE : ∀ (xs : List Nat), (((xs.map fun i : Nat => D.int (2 + (i : Int))).length : Int) == (0 : Int)) = (xs.length == 0) := fun xs => by
      rw [List.length_map]
      exact beq_cast (b := 0)
    have g1 : (e2 opGt (eV 0) (eC (.int 1))) [Slot.v (D.int (n : Int)), .no] = .ok (.bl true) [.v (.int (n : Int)), .no] := by simp [b1, h1]
    have d1 : primeB n = (((List.range (n - 2)).filter fun i => n / (i + 2) * (i + 2) == n).length == 0) := by
      unfold primeB
      rw [decide_eq_true h1, Bool.true_and]
    simp only [sSeq_ap, sRet_ap, eAnd_ap, g1, bind_ok', e2_ap, eB_ap, eCons_ap, eM_ap, k1, eNil_ap, bLen_l, give_some, eC_ap, opEq_int, lenE, d1]
    exact ⟨_, rfl⟩
  · have b1 : decide ((1 : Int) < (n : Int)) = false := decide_eq_false (by omega)
    have d1 : primeB n = false := by
      unfold primeB
      rw [decide_eq_false h1, Bool.false_and]
    rw [d1]
    exact fn_rt (k := 1) rfl rfl (by simp [b1, h1])
theorem F__law_is_prime_neg {m : Int} (h : m ≤ 1) : F__law_is_prime [.v (.int m)] = .ok (.v (.bl false)) [.no] := by
  have b1 : decide ((1 : Int) < m) = false := decide_eq_false (by omega)
  exact fn_rt (k := 1) rfl rfl (by simp [b1])
/-! ### due -/
def mostB (n d : Nat) : Nat := ((List.range 8).filter fun i => n / d ^ (i + 1) * d ^ (i + 1) == n).length
def dueT (n : Nat) : Nat → List (Nat × Nat)
  | 0 => []
  | j + 1 => if n % (j + 2) == 0 && primeT (j + 2) then dueT n j ++ [(j + 2, mostB n (j + 2))] else dueT n j
theorem facs_tab : (List.range 300).all (fun i => fo 400 2 (i + 1) [] == some (dueT (i + 1) i)) = true := by decide +kernel
theorem facs_ok {n : Nat} (h1 : 1 ≤ n) (h2 : n ≤ 300) : fo 400 2 n [] = some (dueT n (n - 1)) := by
  have := List.all_eq_true.mp facs_tab (n - 1) (List.mem_range.mpr (by omega))
  rw [show n - 1 + 1 = n by omega] at this
  simpa using this
theorem most_pos {n d : Nat} : (0 < mostB n d) ↔ n % d = 0 := by
  unfold mostB
  rw [List.length_pos_iff_exists_mem]
  constructor
  · rintro ⟨i, hi⟩
    obtain ⟨_, h⟩ := List.mem_filter.mp hi
    have h : n / d ^ (i + 1) * d ^ (i + 1) = n := by simpa using h
    refine Nat.mod_eq_zero_of_dvd ?_
    have : d ^ (i + 1) ∣ n := ⟨n / d ^ (i + 1), by rw [Nat.mul_comm]; exact h.symm⟩
    exact Nat.dvd_trans ⟨d ^ i, by rw [Nat.pow_succ, Nat.mul_comm]⟩ this
  · intro h
    refine ⟨0, List.mem_filter.mpr ⟨List.mem_range.mpr (by omega), ?_⟩⟩
    have : n / d * d = n := Nat.div_mul_cancel (Nat.dvd_of_mod_eq_zero h)
    simpa using this
end K00
namespace K00
open DL
theorem is_int (x : Int) : F_is_integer [.v (.int x)] = .ok (.v (.bl true)) [.no] := fn_rt (k := 1) rfl rfl (by simp)
theorem is_int_bl (x : Bool) : F_is_integer [.v (.bl x)] = .ok (.v (.bl false)) [.no] := fn_rt (k := 1) rfl rfl (by simp)
theorem is_int_no {d : D} (h : opIsi "int" d = some (.bl false)) : F_is_integer [.v d] = .ok (.v (.bl false)) [.no] := fn_rt (k := 1) rfl rfl (by simp [h])
theorem sp_no {d : D} (h : F_is_integer [.v d] = .ok (.v (.bl false)) [.no]) : F_is_small_prime [.v d] = .ok (.v (.bl false)) [.no] := fn_rt (k := 1) rfl rfl (by simp [h])
def PRl : List Int := [2, 3, 5, 7, 11, 13, 17, 19, 23, 29, 31]
theorem opIn_PR {m : Int} : opIn (.int m) G_PRIMES = some (.bl (PRl.any fun x => x == m)) := by
  have e : G_PRIMES = tI PRl := rfl
  rw [e]
  unfold opIn
  rw [items_tI]
  simp only [shp_int, shp_tI, Bool.and_self, if_true]
  unfold iL
  rw [List.any_map]
  rfl
theorem sp_eq {m : Int} : F_is_small_prime [.v (.int m)] = .ok (.v (.bl (PRl.any fun x => x == m))) [.no] := by
  have c := is_int m
  have o := opIn_PR (m := m)
  exact fn_rt (k := 1) rfl rfl (by simp [c, o])
def primeI (m : Int) : Bool := decide (1 < m) && primeB m.toNat
theorem prime_int {m : Int} (h : m < 1000) : F__law_is_prime [.v (.int m)] = .ok (.v (.bl (primeI m))) [.no] := by
  unfold primeI
  by_cases h1 : 1 < m
  · have := F__law_is_prime_eq (n := m.toNat) (by omega)
    rw [show ((m.toNat : Nat) : Int) = m by omega] at this
    rw [decide_eq_true h1, Bool.true_and]
    exact this
  · rw [decide_eq_false h1, Bool.false_and]
    exact F__law_is_prime_neg (by omega)
theorem told_tab : (List.range 60).all (fun j => (PRl.any fun x => x == (j : Int) - 5) == (decide ((j : Int) - 5 < 32) && primeI ((j : Int) - 5))) = true := by decide +kernel
theorem told_ok {m : Int} (h0 : -5 ≤ m) (h1 : m < 55) : (PRl.any fun x => x == m) = (decide (m < 32) && primeI m) := by
  have := List.all_eq_true.mp told_tab (m + 5).toNat (List.mem_range.mpr (by omega))
  rw [show (((m + 5).toNat : Nat) : Int) - 5 = m by omega] at this
  simpa using this
theorem div_eq {n d : Nat} (hd : 0 < d) : (n / d * d == n) = (n % d == 0) := by
  rw [Bool.eq_iff_iff, beq_iff_eq, beq_iff_eq]
  have := Nat.div_add_mod n d
  rw [Nat.mul_comm] at this
  omega
abbrev en (ns : List Int) (s : S2) (a2 a3 a4 a5 a6 a7 a8 a9 a10 a11 a12 a13 a14 : Slot) : Env := [.v (.scr ns), sO s, a2, a3, a4, a5, a6, a7, a8, a9, a10, a11, a12, a13, a14]
/-- the turns of the loop over the due factors -/
noncomputable abbrev dueB : RS := (sSeq (sSet 11 (eB bLen (eCons (eM (mLc (itR2 (eC (.int 1)) (eC (.int 9))) [5] (.n 5) (tE (e2 opEq (e2 opMul (e2 opDiv (eV 8) (eCal F_power [.e (eV 10), .e (eV 5)])) (eCal F_power [.e (eV 10), .e (eV 5)])) (eV 8))) (eV 5))) eNil))) (sSeq (sIf (tAndD (tE (eCal F__law_is_prime [.e (eV 10)])) (tE (e2 opGt (eV 11) (eC (.int 0))))) (sSeq (oUp appL 9 (eTup (eCons (eV 10) (eCons (eV 11) eNil)))) sNx) sNx) sNx))
theorem due_len (n : Nat) : ∀ j, (dueT n j).length ≤ j
  | 0 => Nat.le_refl _
  | j + 1 => by
    unfold dueT
    have := due_len n j
    split
    · simp; omega
    · omega
theorem pow_bnd {d i : Nat} (h0 : 1 ≤ d) (h1 : d ≤ 301) (h2 : i < 8) : 0 < d ^ (i + 1) ∧ d ^ (i + 1) < 79228162514264337593543950336 := by
  refine ⟨Nat.pow_pos h0, Nat.lt_of_le_of_lt (Nat.le_trans (Nat.pow_le_pow_left h1 _) (Nat.pow_le_pow_right (by omega) (show i + 1 ≤ 8 by omega))) (by decide)⟩
theorem due_step {ns : List Int} {s : S2} {a2 a3 a4 a5 a6 a7 a11 : Slot} {n j : Nat} (hn : n ≤ 300) (hj : j < 299) : ∃ a11' : Slot,
    dueB (en ns s a2 a3 a4 a5 a6 a7 (.v (.int (n : Int))) (.o (prs (dueT n j))) (.v (.int (2 + (j : Int)))) a11 .no .no .no) = .ok .nx (en ns s a2 a3 a4 a5 a6 a7 (.v (.int (n : Int))) (.o (prs (dueT n (j + 1)))) (.v (.int (2 + (j : Int)))) a11' .no .no .no) := by
  have szc := szL_big
  have ej : (2 + (j : Int)) = ((j + 2 : Nat) : Int) := by omega
  rw [ej]
  let E := fun (a5 a11 : Slot) => en ns s a2 a3 a4 a5 a6 a7 (.v (.int (n : Int))) (.o (prs (dueT n j))) (.v (.int ((j + 2 : Nat) : Int))) a11 .no .no .no
  have o1 := ok62_of (a := 1) (by omega) (by omega)
  have o9 := ok62_of (a := 9) (by omega) (by omega)
  have k1 := mLc_f (it := itR2 (eC (.int 1)) (eC (.int 9))) (own := [5]) (t := .n 5) (tt := tE (e2 opEq (e2 opMul (e2 opDiv (eV 8) (eCal F_power [.e (eV 10), .e (eV 5)])) (eCal F_power [.e (eV 10), .e (eV 5)])) (eV 8))) (a := eV 5) (ρ := E a5 a11) (ρ0 := E a5 a11)
    (emb := fun i : Nat => D.int (1 + (i : Int))) (xs := List.range 8) (fun i => n / (j + 2) ^ (i + 1) * (j + 2) ^ (i + 1) == n) (fun i : Nat => D.int (1 + (i : Int))) (by simp [E, o1, o9, rangeL]) (by simp <;> omega) (fun i hi => by
      have hi := List.mem_range.mp hi
      have cp := F_power_eq (a := ((j + 2 : Nat) : Int)) (k := i + 1) (by omega) (by omega)
      rw [show ((i + 1 : Nat) : Int) = 1 + (i : Int) by omega] at cp
      obtain ⟨b1, b2⟩ := pow_bnd (d := j + 2) (i := i) (by omega) (by omega) hi
      have ep : ((j + 2 : Nat) : Int) ^ (i + 1) = (((j + 2) ^ (i + 1) : Nat) : Int) := (Int.natCast_pow _ _).symm
      rw [ep] at cp
      generalize hP : (j + 2) ^ (i + 1) = P at *
      have od := okDv_big (a := (P : Int)) (by omega) (by omega)
      have dl : n / P ≤ n := Nat.div_le_self _ _
      have sm : (smallF ((n : Int) / (P : Int)) || smallF (P : Int)) = true := by
        rw [← Int.natCast_ediv]
        generalize n / P = q at dl
        exact sm_l (by rw [t64]; omega) (by rw [t64]; omega)
      have e : (((n : Int) / (P : Int) * (P : Int)) == (n : Int)) = (n / P * P == n) := by
        rw [← Int.natCast_ediv, ← Int.natCast_mul]
        exact beq_cast
      refine ⟨E (.v (.int (1 + (i : Int)))) a11, rfl, rfl, ?_, fun _ => by simp [E]⟩
      simp only [E, en]
      have ee : ((j + 2 : Nat) : Int) = (j : Int) + 2 := by omega
      rw [ee] at cp
      simp [cp, od, sm, e])
  have hm : ((((List.range 8).filter fun i => n / (j + 2) ^ (i + 1) * (j + 2) ^ (i + 1) == n).map fun i : Nat => D.int (1 + (i : Int))).length : Int) = (mostB n (j + 2) : Int) := by
    rw [List.length_map]
    rfl
  have c1 : sSet 11 (eB bLen (eCons (eM (mLc (itR2 (eC (.int 1)) (eC (.int 9))) [5] (.n 5) (tE (e2 opEq (e2 opMul (e2 opDiv (eV 8) (eCal F_power [.e (eV 10), .e (eV 5)])) (eCal F_power [.e (eV 10), .e (eV 5)])) (eV 8))) (eV 5))) eNil)) (E a5 a11) = .ok .nx (E a5 (.v (.int (mostB n (j + 2) : Int)))) := by
    simp only [sSet_ap, eB_ap, eCons_ap, eM_ap, k1, eNil_ap, bind_ok', bLen_l, give_some, hm]
    rfl
  refine ⟨.v (.int (mostB n (j + 2) : Int)), ?_⟩
  unfold dueB
  rw [seq_nx c1]
  have cpr := F__law_is_prime_eq (n := j + 2) (by omega)
  rw [prime_eq (by omega), show ((j + 2 : Nat) : Int) = (j : Int) + 2 by omega] at cpr
  have dl := due_len n j
  have ap : ∀ x, appL (prs (dueT n j)) x = some (prs (dueT n j) ++ [x]) := fun x => by
    unfold appL
    rw [if_pos (by simp [prs]; omega)]
  have hmp : (n % (j + 2) == 0) = decide (0 < mostB n (j + 2)) := by
    rw [Bool.eq_iff_iff, beq_iff_eq, decide_eq_true_iff]
    exact most_pos.symm
  conv => rhs; unfold dueT
  rw [hmp]
  simp only [E, en]
  have ee : ((j + 2 : Nat) : Int) = (j : Int) + 2 := by omega
  rw [ee]
  cases hT : primeT (j + 2) with
  | false =>
    rw [hT] at cpr
    simp [cpr]
  | true =>
    rw [hT] at cpr
    by_cases hz : 0 < mostB n (j + 2)
    · have b1 : decide ((0 : Int) < (mostB n (j + 2) : Int)) = true := decide_eq_true (by omega)
      simp [cpr, b1, hz, ap, prs_app]
    · have b1 : decide ((0 : Int) < (mostB n (j + 2) : Int)) = false := decide_eq_false (by omega)
      simp [cpr, b1, hz]
end K00
namespace K00
open DL
theorem shp_two {a b : PySem.Str} (h1 : PySem.PyData.strOk a = true) (h2 : PySem.PyData.strOk b = true) : D.shp (.tup [.str a, .str b]) = true := by
  show (D.fin (.tup [.str a, .str b]) && decide (D.dep (.tup [.str a, .str b]) ≤ 64)) = true
  have : D.fin (.tup [.str a, .str b]) = true := by
    show (PySem.PyData.strOk a && (PySem.PyData.strOk b && true)) = true
    rw [h1, h2]
    rfl
  rw [this]
  rfl
theorem draw_p (ns : List Int) (s : S2) : ∃ (s' : S2) (p : Int), Pr p ∧ sSet 2 (e2 opIx (eM (mLst (eCons (eC (.int 2)) (eCons (eC (.int 3)) (eCons (eC (.int 5)) (eCons (eC (.int 7)) (eCons (eC (.int 11)) (eCons (eC (.int 13)) (eCons (eC (.int 17)) (eCons (eC (.int 19)) (eCons (eC (.int 23)) (eCons (eC (.int 29)) (eCons (eC (.int 31)) eNil))))))))))))) (eCal F__law_take [.o 1, .e (eC (.int 11))]))
    (en ns s .no .no .no .no .no .no .no .no .no .no .no .no .no) = .ok .nx (en ns s' (.v (.int p)) .no .no .no .no .no .no .no .no .no .no .no .no) := by
  have szc := szL_big
  obtain ⟨s1, c, g0, g1, e0⟩ := F__law_take_eq s (m := 11) (by omega) (by omega)
  have hc : c = 0 ∨ c = 1 ∨ c = 2 ∨ c = 3 ∨ c = 4 ∨ c = 5 ∨ c = 6 ∨ c = 7 ∨ c = 8 ∨ c = 9 ∨ c = 10 := by omega
  have key : ∀ d : D, opIx (.lst [.int 2, .int 3, .int 5, .int 7, .int 11, .int 13, .int 17, .int 19, .int 23, .int 29, .int 31]) (.int c) = some d →
      sSet 2 (e2 opIx (eM (mLst (eCons (eC (.int 2)) (eCons (eC (.int 3)) (eCons (eC (.int 5)) (eCons (eC (.int 7)) (eCons (eC (.int 11)) (eCons (eC (.int 13)) (eCons (eC (.int 17)) (eCons (eC (.int 19)) (eCons (eC (.int 23)) (eCons (eC (.int 29)) (eCons (eC (.int 31)) eNil))))))))))))) (eCal F__law_take [.o 1, .e (eC (.int 11))]))
        (en ns s .no .no .no .no .no .no .no .no .no .no .no .no .no) = .ok .nx (en ns s1 (.v d) .no .no .no .no .no .no .no .no .no .no .no .no) := fun d hd => by
    simp only [en]
    unfold sO at *
    have ml : ∀ ρ : Env, mLst (eCons (eC (.int 2)) (eCons (eC (.int 3)) (eCons (eC (.int 5)) (eCons (eC (.int 7)) (eCons (eC (.int 11)) (eCons (eC (.int 13)) (eCons (eC (.int 17)) (eCons (eC (.int 19)) (eCons (eC (.int 23)) (eCons (eC (.int 29)) (eCons (eC (.int 31)) eNil))))))))))) ρ = .ok [.int 2, .int 3, .int 5, .int 7, .int 11, .int 13, .int 17, .int 19, .int 23, .int 29, .int 31] ρ := fun ρ => by simp; omega
    simp only [sSet_ap, e2_ap, eM_ap, ml, bind_ok', eCal_ap, callG_ap, agF_o, agF_e, agF_nil, eC_ap, isO_o, List.getD_cons_zero, List.getD_cons_succ, own_o, Option.isSome_some, if_true, slotsF_o, slotsF_e, slotsF_nil, Option.map_some, e0, backF_o, backF_e, backF_nil, List.set_cons_zero, List.set_cons_succ, hd, give_some]
  unfold Pr
  rcases hc with rfl | rfl | rfl | rfl | rfl | rfl | rfl | rfl | rfl | rfl | rfl
  · exact ⟨s1, 2, by omega, key _ rfl⟩
  · exact ⟨s1, 3, by omega, key _ rfl⟩
  · exact ⟨s1, 5, by omega, key _ rfl⟩
  · exact ⟨s1, 7, by omega, key _ rfl⟩
  · exact ⟨s1, 11, by omega, key _ rfl⟩
  · exact ⟨s1, 13, by omega, key _ rfl⟩
  · exact ⟨s1, 17, by omega, key _ rfl⟩
  · exact ⟨s1, 19, by omega, key _ rfl⟩
  · exact ⟨s1, 23, by omega, key _ rfl⟩
  · exact ⟨s1, 29, by omega, key _ rfl⟩
  · exact ⟨s1, 31, by omega, key _ rfl⟩
theorem strR : PySem.PyData.strOk ("refused" : PySem.Str) = true := by decide +kernel
theorem strI : PySem.PyData.strOk ("inverse" : PySem.Str) = true := by decide +kernel
theorem law_true : LawTrue F_law := by
  intro ns hns
  have szc := szL_big
  obtain ⟨s0, c0⟩ := F__law_state_eq ns
  obtain ⟨s1, p, hpr, c1⟩ := draw_p ns s0
  have hp := hpr.pos
  obtain ⟨s2, a0, g0, g1, c2⟩ := F__law_take_eq s1 (m := 2001) (by omega) (by omega)
  obtain ⟨a, ha⟩ : ∃ a, a = a0 - 1000 := ⟨_, rfl⟩
  have hab : -100000 < a ∧ a < 100000 := by omega
  let PS : Slot := .v (.int p)
  let AS : Slot := .v (.int a)
  obtain ⟨s4, c4⟩ : ∃ s4 : Slot, sIf (tE (e2 opEq (e2 opMod (eB bInt (eCons (eV 3) eNil)) (eV 2)) (eC (.int 0)))) (sSeq (sIf (tE (e2 opNe (eCal F__law_reason [.e (eV 3), .e (eV 2)]) (eTup (eCons (eC (.str "refused")) (eCons (eC (.str "inverse")) eNil))))) (sSeq (sRet (eC (.bl false))) sNx) sNx) sNx) (sSeq (sSet 4 (eCal F_inverse [.e (eV 3), .e (eV 2)])) (sSeq (sIf (tOrD (tNotD (tE (eChain opLt opLt (eC (.int 0)) (eV 4) (eV 2)))) (tE (e2 opNe (e2 opMod (eB bInt (eCons (e2 opMul (eV 3) (eV 4)) eNil)) (eV 2)) (eC (.int 1))))) (sSeq (sRet (eC (.bl false))) sNx) sNx) sNx))
      (en ns s2 PS AS .no .no .no .no .no .no .no .no .no .no .no) = .ok .nx (en ns s2 PS AS s4 .no .no .no .no .no .no .no .no .no .no) := by
    by_cases hm : a % p = 0
    · have cr := F__law_reason_eq hpr hab hm
      have hb : (a % p == 0) = true := by simpa using hm
      have ne := opNe_self (shp_two strR strI)
      refine ⟨.no, ?_⟩
      simp only [en, PS, AS]
      simp [show (0 : Int) < p by omega, hb, cr, ne]
    · obtain ⟨b, b1, b2, b3, b4⟩ := F_inverse_ok hpr hab hm
      have hb : (a % p == 0) = false := by simpa using hm
      have d1 : decide ((0 : Int) < b) = true := decide_eq_true b1
      have d2 : decide (b < p) = true := decide_eq_true b2
      have sm : (smallF a || smallF b) = true := sm_l (by rw [t64]; omega) (by rw [t64]; omega)
      refine ⟨.v (.int b), ?_⟩
      simp only [en, PS, AS]
      simp [show (0 : Int) < p by omega, hb, b4, d1, d2, b1, b2, sm, b3]
  obtain ⟨s5, k0, q0, q1, c5⟩ := F__law_take_eq s2 (m := 9) (by omega) (by omega)
  obtain ⟨k, rfl⟩ : ∃ k : Nat, k0 = k := ⟨k0.toNat, by omega⟩
  let KS : Slot := .v (.int (k : Int))
  have ok_ := ok62_nat (n := k) (by omega)
  obtain ⟨ρ7, f1, t7, f2⟩ := for_inv (g := .n 7) (body := (sSeq (sSet 6 (e2 opMul (eV 6) (eV 3))) sNx)) (fun j ρ => ∃ s7, ρ = en ns s5 PS AS s4 KS (.v (.int (a ^ j))) s7 .no .no .no .no .no .no .no) (rangeL 0 k) 0 (en ns s5 PS AS s4 KS (.v (.int 1)) .no .no .no .no .no .no .no .no) ⟨.no, by rw [Int.pow_zero]⟩ (fun j x ρ hx ⟨s7, e⟩ => by
    subst e
    rw [Nat.zero_add]
    have sm : (smallF (a ^ j) || smallF a) = true := sm_r (by rw [t64]; omega) (by rw [t64]; omega)
    exact ⟨_, en ns s5 PS AS s4 KS (.v (.int (a ^ (j + 1)))) (.v x) .no .no .no .no .no .no .no, .nx, rfl, by simp [AS, sm, Int.pow_succ], .inl rfl, _, rfl⟩)
  rw [Nat.zero_add, range_len] at f2
  subst f2
  obtain ⟨s8, n0, r0, r1, c8⟩ := F__law_take_eq s5 (m := 300) (by omega) (by omega)
  obtain ⟨n, hn⟩ : ∃ n : Nat, 1 + n0 = (n : Int) := ⟨(1 + n0).toNat, by omega⟩
  have hn1 : 1 ≤ n := by omega
  have hn2 : n ≤ 300 := by omega
  let TS : Slot := .v (.int (a ^ k))
  let NS : Slot := .v (.int (n : Int))
  have on1 := ok62_of (a := 2) (by omega) (by omega)
  have on2 := ok62_of (a := (n : Int) + 1) (by omega) (by omega)
  obtain ⟨ρ10, f3, t10, t11, f4⟩ := for_inv (g := .n 10) (body := dueB) (fun j ρ => ∃ s10 s11, ρ = en ns s8 PS AS s4 KS TS t7 NS (.o (prs (dueT n j))) s10 s11 .no .no .no) (rangeL 2 (n - 1)) 0 (en ns s8 PS AS s4 KS TS t7 NS (.o []) .no .no .no .no .no) ⟨_, _, rfl⟩ (fun j x ρ hx ⟨s10, s11, e⟩ => by
    have hj := (List.getElem?_eq_some_iff.mp hx).1
    rw [range_len] at hj
    rw [range_at hj] at hx
    cases hx
    subst e
    rw [Nat.zero_add]
    obtain ⟨a11, e⟩ := due_step (ns := ns) (s := s8) (a2 := PS) (a3 := AS) (a4 := s4) (a5 := KS) (a6 := TS) (a7 := t7) (a11 := s11) (n := n) (j := j) hn2 (by omega)
    exact ⟨_, _, .nx, rfl, e, .inl rfl, _, _, rfl⟩)
  rw [Nat.zero_add, range_len] at f4
  subst f4
  have cpw := F_power_eq (a := a) (k := k) hab (by omega)
  have cdv := F_divisors_eq (n := n) (by omega)
  have cfc := F_factors_eq (facs_ok hn1 hn2) hn1 (by omega)
  let E11 := fun (s9 : Slot) => en ns s8 PS AS s4 KS TS t7 NS s9 t10 t11 .no .no .no
  have o1 := ok62_of (a := 1) (by omega) (by omega)
  have kd := mLc_f (it := itR2 (eC (.int 1)) (e2 opAdd (eV 8) (eC (.int 1)))) (own := [10]) (t := .n 10) (tt := tE (e2 opEq (e2 opMul (e2 opDiv (eV 8) (eV 10)) (eV 10)) (eV 8))) (a := eV 10) (ρ := E11 (.o (prs (dueT n (n - 1))))) (ρ0 := E11 (.o (prs (dueT n (n - 1)))))
    (emb := D.int) (xs := (List.range n).map fun i : Nat => 1 + (i : Int)) (fun d => (n : Int) % d == 0) D.int (by simp [E11, NS, o1, on2, range1]) (by simp <;> omega) (fun d hd => by
      obtain ⟨i, hi, rfl⟩ := List.mem_map.mp hd
      have hi := List.mem_range.mp hi
      have od := okDv_of (a := 1 + (i : Int)) (by omega) (by omega)
      have sm : (smallF ((n : Int) / (1 + (i : Int))) || smallF (1 + (i : Int))) = true := sm_r (by rw [t64]; omega) (by rw [t64]; omega)
      have e : (((n : Int) / (1 + (i : Int)) * (1 + (i : Int))) == (n : Int)) = ((n : Int) % (1 + (i : Int)) == 0) := by
        rw [show (1 + (i : Int)) = ((i + 1 : Nat) : Int) by omega, ← Int.natCast_ediv, ← Int.natCast_mul, ← Int.natCast_emod]
        rw [beq_cast, div_eq (by omega)]
        exact (beq_cast (b := 0)).symm
      exact ⟨en ns s8 PS AS s4 KS TS t7 NS (.o (prs (dueT n (n - 1)))) (.v (.int (1 + (i : Int)))) t11 .no .no .no, rfl, rfl, by simp [NS, od, sm, e], fun _ => by simp⟩)
  have kd2 : (((List.range n).map fun i : Nat => 1 + (i : Int)).filter fun d => (n : Int) % d == 0).map D.int = iL (divL n) := rfl
  rw [kd2] at kd
  have ne1 : opNe (tI (divL n)) (tI (divL n)) = some (.bl false) := by
    have := opNe_tI (xs := divL n) (ys := divL n)
    rwa [beq_self_eq_true] at this
  have ne2 : opNe (.tup (prs (dueT n (n - 1)))) (.tup (prs (dueT n (n - 1)))) = some (.bl false) := by
    have e : ∀ fs : List (Nat × Nat), D.tup (prs fs) = tR (fs.map fun q => [(q.1 : Int), (q.2 : Int)]) := fun fs => by
      show D.tup _ = D.tup _
      unfold prs
      rw [List.map_map]
      rfl
    rw [e]
    have := opNe_tR (xs := (dueT n (n - 1)).map fun q => [(q.1 : Int), (q.2 : Int)]) (ys := (dueT n (n - 1)).map fun q => [(q.1 : Int), (q.2 : Int)])
    rwa [beq_self_eq_true] at this
  obtain ⟨s12, m0, u0, u1, c12⟩ := F__law_take_eq s8 (m := 60) (by omega) (by omega)
  obtain ⟨m, hm⟩ : ∃ m, m = m0 - 5 := ⟨_, rfl⟩
  have csp := sp_eq (m := m)
  rw [told_ok (by omega) (by omega)] at csp
  have cpm := prime_int (m := m) (by omega)
  have ca := is_int a
  let DS : Slot := .v (.lst (prs (dueT n (n - 1))))
  let MS : Slot := .v (.int m)
  let B : Bool := decide (m < 32) && primeI m
  let E14 := fun (s14 : Slot) => en ns s12 PS AS s4 KS TS t7 NS DS t10 t11 MS (.v (.bl B)) s14
  obtain ⟨ρ14, f5, t14, f6⟩ := for_inv (g := .n 14) (body := (sSeq (sIf (tOrD (tE (e2 opIsnt (eCal F_is_integer [.e (eV 14)]) (eC (.bl false)))) (tE (e2 opIsnt (eCal F_is_small_prime [.e (eV 14)]) (eC (.bl false))))) (sSeq (sRet (eC (.bl false))) sNx) sNx) sNx)) (fun _ ρ => ∃ s14, ρ = E14 s14) [.bl true, .bl false, .non, .str "2", .tup [.int 2], .lst [.int 2], .tup []] 0 (E14 .no) ⟨_, rfl⟩ (fun j x ρ hx ⟨s14, e⟩ => by
    subst e
    have hi : F_is_integer [.v x] = .ok (.v (.bl false)) [.no] := by
      have hx := List.mem_of_getElem? hx
      simp only [List.mem_cons, List.not_mem_nil, or_false] at hx
      rcases hx with rfl | rfl | rfl | rfl | rfl | rfl | rfl
      · exact is_int_bl _
      · exact is_int_bl _
      · exact is_int_no isi_ni
      · exact is_int_no isi_si
      · exact is_int_no isi_ti
      · exact is_int_no isi_li
      · exact is_int_no isi_ti
    have hs := sp_no hi
    have o : opIsnt (.bl false) (.bl false) = some (.bl false) := rfl
    exact ⟨_, E14 (.v x), .nx, rfl, by simp [E14, hi, hs, o], .inl rfl, _, rfl⟩)
  subst f6
  refine ⟨_, fn_rt (k := 1) rfl (ρ0 := [.v (.scr ns), .no, .no, .no, .no, .no, .no, .no, .no, .no, .no, .no, .no, .no, .no]) rfl ?_⟩
  unfold sO at *
  rw [seq_nx (ρ1 := en ns s0 .no .no .no .no .no .no .no .no .no .no .no .no .no) (by simp [c0, sO])]
  rw [seq_nx c1]
  rw [seq_nx (ρ1 := en ns s2 PS AS .no .no .no .no .no .no .no .no .no .no .no) (by simp [c2, sO, PS, AS, ha])]
  rw [seq_nx c4]
  rw [seq_nx (ρ1 := en ns s5 PS AS s4 KS .no .no .no .no .no .no .no .no .no) (by simp [c5, sO, PS, AS, KS])]
  rw [seq_nx (ρ1 := en ns s5 PS AS s4 KS (.v (.int 1)) .no .no .no .no .no .no .no .no) (by simp [sO])]
  rw [seq_nx (ρ1 := en ns s5 PS AS s4 KS TS t7 .no .no .no .no .no .no .no) (by
    have it : itR1 (eV 5) (en ns s5 PS AS s4 KS (.v (.int 1)) .no .no .no .no .no .no .no .no) = .ok (rangeL 0 k) (en ns s5 PS AS s4 KS (.v (.int 1)) .no .no .no .no .no .no .no .no) := by simp [KS, ok_]
    rw [sFor_ap, it, bind_ok', f1])]
  rw [seq_nx (ρ1 := en ns s8 PS AS s4 KS TS t7 NS .no .no .no .no .no .no) (by simp [c8, sO, NS, hn])]
  rw [seq_nx (ρ1 := en ns s8 PS AS s4 KS TS t7 NS (.o []) .no .no .no .no .no) (by simp [sO])]
  rw [seq_nx (ρ1 := E11 (.o (prs (dueT n (n - 1))))) (by
    have it : itR2 (eC (.int 2)) (e2 opAdd (eV 8) (eC (.int 1))) (en ns s8 PS AS s4 KS TS t7 NS (.o []) .no .no .no .no .no) = .ok (rangeL 2 (n - 1)) (en ns s8 PS AS s4 KS TS t7 NS (.o []) .no .no .no .no .no) := by
      have : ((n : Int) + 1 - 2).toNat = n - 1 := by omega
      simp [NS, on1, on2, this]
    rw [sFor_ap, it, bind_ok', f3])]
  rw [seq_nx (ρ1 := E11 DS) (by
    have tb : bTuple [.lst (iL (divL n))] = some (tI (divL n)) := rfl
    have tb2 : bTuple [.lst (prs (dueT n (n - 1)))] = some (.tup (prs (dueT n (n - 1)))) := rfl
    have neI : opNe (.int (a ^ k)) (.int (a ^ k)) = some (.bl false) := by simp
    have t1 : (tE (e2 opNe (eCal F_power [.e (eV 3), .e (eV 5)]) (eV 6))) (E11 (.o (prs (dueT n (n - 1))))) = .ok false (E11 (.o (prs (dueT n (n - 1))))) := by simp [E11, AS, KS, TS, cpw]
    have t2 : (tE (e2 opNe (eCal F_divisors [.e (eV 8)]) (eB bTuple (eCons (eM (mLc (itR2 (eC (.int 1)) (e2 opAdd (eV 8) (eC (.int 1)))) [10] (.n 10) (tE (e2 opEq (e2 opMul (e2 opDiv (eV 8) (eV 10)) (eV 10)) (eV 8))) (eV 10))) eNil)))) (E11 (.o (prs (dueT n (n - 1))))) = .ok false (E11 (.o (prs (dueT n (n - 1))))) := by
      have d1 : (eCal F_divisors [.e (eV 8)]) (E11 (.o (prs (dueT n (n - 1))))) = .ok (tI (divL n)) (E11 (.o (prs (dueT n (n - 1))))) := by simp [E11, NS, cdv]
      simp only [tE_ap, e2_ap, d1, bind_ok', eB_ap, eCons_ap, eM_ap, kd, eNil_ap, tb, give_some, ne1, asB_bl]
    have t3 : (tE (e2 opNe (eCal F_factors [.e (eV 8)]) (eB bTuple (eCons (eV 9) eNil)))) (E11 (.o (prs (dueT n (n - 1))))) = .ok false (E11 DS) := by simp [E11, NS, DS, cfc, tb2, ne2]
    simp only [sIf_ap, tOrD_ap, t1, t2, t3, bind_ok', Bool.false_eq_true, if_false, sNx_ap])]
  rw [seq_nx (ρ1 := en ns s12 PS AS s4 KS TS t7 NS DS t10 t11 MS .no .no) (by simp [E11, c12, sO, MS, hm])]
  rw [seq_nx (ρ1 := E14 .no) (by simp [E14, sO, MS, csp, B])]
  rw [seq_nx (ρ1 := E14 .no) (by
    have neB : opNe (.bl B) (.bl B) = some (.bl false) := opNe_self rfl
    have e : (eAnd (e2 opLt (eV 12) (eC (.int 32))) (eCal F__law_is_prime [.e (eV 12)])) (E14 .no) = .ok (.bl B) (E14 .no) := by
      by_cases h : m < 32
      · have d : decide (m < 32) = true := decide_eq_true h
        simp [E14, MS, B, d, cpm, h]
      · have d : decide (m < 32) = false := decide_eq_false h
        simp [E14, MS, B, d, h]
    have e2' : (eV 13) (E14 .no) = .ok (.bl B) (E14 .no) := rfl
    simp only [sIf_ap, tOrD_ap, tNotD_ap, tE_ap, e1_ap, e2_ap, e2', bind_ok', isi_bb, give_some, asB_bl, e, neB, Bool.not_true, Bool.false_eq_true, if_false, sNx_ap])]
  rw [seq_nx (ρ1 := E14 t14) (by
    have it : itE (eM (mLst (eCons (eC (.bl true)) (eCons (eC (.bl false)) (eCons (eC .non) (eCons (eC (.str "2")) (eCons (eTup (eCons (eC (.int 2)) eNil)) (eCons (eM (mLst (eCons (eC (.int 2)) eNil))) (eCons (eTup eNil) eNil))))))))) (E14 .no) = .ok [.bl true, .bl false, .non, .str "2", .tup [.int 2], .lst [.int 2], .tup []] (E14 .no) := by simp [E14]
    rw [sFor_ap, it, bind_ok', f5])]
  have oT : opIs (.bl true) (.bl true) = some (.bl true) := rfl
  simp [E14, AS, ca, oT]
end K00
set_option autoImplicit true
set_option maxHeartbeats 0
namespace K00
open PySem PySem.Spec PyProof.Rows L2 DL
abbrev PW : Program := PySem.Challenge.pw_polychains_k00_numbers
def top (i : Nat) : Stmt := PW.main.body.getD i (.Pass ⟨0, 0, 0, 0⟩)
def r_is_integer : Rx := (.seq (.ret (.and (.isi "int" (.v 0)) (.one (.not (.isi "bool" (.v 0)))))) .nx)
theorem c_is_integer : chkSs { N := ["value"], sc := defScope (top 7), pl := ownIx [false] 0, fns := [], free := ["isinstance", "int", "bool"], vals := [], excs := [], exm := [], exi := [] } r_is_integer (defBody (top 7)) = true := by kernel_rfl
theorem s_is_integer : FnScope ["value"] ["value"] (defScope (top 7)) := ⟨rfl, rfl, rfl, by decide +kernel, rfl, by decide +kernel, by decide +kernel⟩
theorem e_is_integer : fnF [false] 1 (denS [] [] r_is_integer) = F_is_integer := rfl
abbrev d_is_integer : He.DefD := ⟨("is_integer", none), "is_integer", "is_integer", defArgs (top 7), defBody (top 7), defScope (top 7), [], []⟩
def r_is_small_prime : Rx := (.seq (.ret (.and (.call 0 (.cons (.v 0) .nil)) (.one (.cmp .In (.v 0) (.g 0))))) .nx)
theorem c_is_small_prime : chkSs { N := ["value"], sc := defScope (top 8), pl := ownIx [false] 0, fns := [⟨"is_integer", 1⟩], free := [], vals := [("PRIMES", G_PRIMES)], excs := [], exm := [], exi := [] } r_is_small_prime (defBody (top 8)) = true := by kernel_rfl
theorem s_is_small_prime : FnScope ["value"] ["value"] (defScope (top 8)) := ⟨rfl, rfl, rfl, by decide +kernel, rfl, by decide +kernel, by decide +kernel⟩
theorem e_is_small_prime : fnF [false] 1 (denS [F_is_integer] [G_PRIMES] r_is_small_prime) = F_is_small_prime := rfl
abbrev d_is_small_prime : He.DefD := ⟨("is_small_prime", none), "is_small_prime", "is_small_prime", defArgs (top 8), defBody (top 8), defScope (top 8), [], []⟩
def r_power : Rx := (.seq (.set 2 (.c (.int 1))) (.seq (.for (.rng1 (.v 1)) (.n 3) (.seq (.set 2 (.bin .Mult (.v 2) (.v 0))) .nx)) (.seq (.ret (.v 2)) .nx)))
theorem c_power : chkSs { N := ["a", "k", "total", "_"], sc := defScope (top 9), pl := ownIx [false, false] 0, fns := [], free := ["range"], vals := [], excs := [], exm := [], exi := [] } r_power (defBody (top 9)) = true := by kernel_rfl
theorem s_power : FnScope ["a", "k", "total", "_"] ["a", "k"] (defScope (top 9)) := ⟨rfl, rfl, rfl, by decide +kernel, rfl, by decide +kernel, by decide +kernel⟩
theorem e_power : fnF [false, false] 4 (denS [] [] r_power) = F_power := rfl
abbrev d_power : He.DefD := ⟨("power", none), "power", "power", defArgs (top 9), defBody (top 9), defScope (top 9), [], []⟩
def r_inverse : Rx := (.seq (.for (.rng2 (.c (.int 1)) (.v 1)) (.n 2) (.seq (.sif (.cmp .Eq (.bin .Mod (.bin .Mult (.v 0) (.v 2)) (.v 1)) (.c (.int 1))) (.seq (.ret (.v 2)) .nx) .nx) .nx)) (.seq (.raise1 "Refused" "reason" (.cons (.c (.str "inverse")) .nil)) .nx))
theorem c_inverse : chkSs { N := ["a", "p", "k"], sc := defScope (top 10), pl := ownIx [false, false] 0, fns := [], free := ["range"], vals := [], excs := [⟨"Refused", some "reason"⟩], exm := [], exi := [] } r_inverse (defBody (top 10)) = true := by kernel_rfl
theorem s_inverse : FnScope ["a", "p", "k"] ["a", "p"] (defScope (top 10)) := ⟨rfl, rfl, rfl, by decide +kernel, rfl, by decide +kernel, by decide +kernel⟩
theorem e_inverse : fnF [false, false] 3 (denS [] [] r_inverse) = F_inverse := rfl
abbrev d_inverse : He.DefD := ⟨("inverse", none), "inverse", "inverse", defArgs (top 10), defBody (top 10), defScope (top 10), [], []⟩
def r_factors : Rx := (.seq (.setO 1 (.lst .nil)) (.seq (.set 2 (.v 0)) (.seq (.set 3 (.c (.int 2))) (.seq (.while (.cmp .Gt (.v 2) (.c (.int 1))) (.seq (.set 4 (.c (.int 0))) (.seq (.while (.cmp .Eq (.bin .Mod (.v 2) (.v 3)) (.c (.int 0))) (.seq (.set 2 (.bin .FloorDiv (.v 2) (.v 3))) (.seq (.set 4 (.bin .Add (.v 4) (.c (.int 1)))) .nx))) (.seq (.sif (.cmp .Gt (.v 4) (.c (.int 0))) (.seq (.app 1 (.tup (.cons (.v 3) (.cons (.v 4) .nil)))) .nx) .nx) (.seq (.set 3 (.bin .Add (.v 3) (.c (.int 1)))) .nx))))) (.seq (.ret (.bi .tuple (.cons (.v 1) .nil))) .nx)))))
theorem c_factors : chkSs { N := ["n", "found", "rest", "d", "k"], sc := defScope (top 11), pl := ownIx [false] 0, fns := [], free := ["tuple"], vals := [], excs := [], exm := [], exi := [] } r_factors (defBody (top 11)) = true := by kernel_rfl
theorem s_factors : FnScope ["n", "found", "rest", "d", "k"] ["n"] (defScope (top 11)) := ⟨rfl, rfl, rfl, by decide +kernel, rfl, by decide +kernel, by decide +kernel⟩
theorem e_factors : fnF [false] 5 (denS [] [] r_factors) = F_factors := rfl
abbrev d_factors : He.DefD := ⟨("factors", none), "factors", "factors", defArgs (top 11), defBody (top 11), defScope (top 11), [], []⟩
def r_divisors : Rx := (.seq (.ret (.bi .tuple (.cons (.ml (.lc (.rng2 (.c (.int 1)) (.bin .Add (.v 0) (.c (.int 1)))) [1] (.n 1) (.one (.cmp .Eq (.bin .Mod (.v 0) (.v 1)) (.c (.int 0)))) (.v 1))) .nil))) .nx)
theorem c_divisors : chkSs { N := ["n", "d"], sc := defScope (top 12), pl := ownIx [false] 0, fns := [], free := ["tuple", "range"], vals := [], excs := [], exm := [], exi := [] } r_divisors (defBody (top 12)) = true := by kernel_rfl
theorem s_divisors : FnScope ["n", "d"] ["n"] (defScope (top 12)) := ⟨rfl, rfl, rfl, by decide +kernel, rfl, by decide +kernel, by decide +kernel⟩
theorem e_divisors : fnF [false] 2 (denS [] [] r_divisors) = F_divisors := rfl
abbrev d_divisors : He.DefD := ⟨("divisors", none), "divisors", "divisors", defArgs (top 12), defBody (top 12), defScope (top 12), [], []⟩
def r__law_state : Rx := (.seq (.set 1 (.c (.int 0))) (.seq (.set 2 (.c (.int 1))) (.seq (.for (.one (.cut (.v 0) .noP (.one (.c (.int 63))))) (.n 3) (.seq (.set 1 (.bin .Add (.bin .Mult (.v 1) (.c (.int 1000003))) (.bi .abs (.cons (.v 3) .nil)))) (.seq (.set 2 (.bin .Mod (.bi .int (.cons (.bin .Add (.bin .Mult (.v 2) (.c (.int 48271))) (.v 3)) .nil)) (.c (.int 2147483647)))) .nx))) (.seq (.retO (.lst (.cons (.v 1) (.cons (.v 2) .nil)))) .nx))))
theorem c__law_state : chkSs { N := ["_law_script", "_law_seed", "_law_total", "_law_cell"], sc := defScope (top 14), pl := ownIx [false] 0, fns := [], free := ["int", "abs"], vals := [], excs := [], exm := [], exi := [] } r__law_state (defBody (top 14)) = true := by kernel_rfl
theorem s__law_state : FnScope ["_law_script", "_law_seed", "_law_total", "_law_cell"] ["_law_script"] (defScope (top 14)) := ⟨rfl, rfl, rfl, by decide +kernel, rfl, by decide +kernel, by decide +kernel⟩
theorem e__law_state : fnF [false] 4 (denS [] [] r__law_state) = F__law_state := rfl
abbrev d__law_state : He.DefD := ⟨("_law_state", none), "_law_state", "_law_state", defArgs (top 14), defBody (top 14), defScope (top 14), [], []⟩
def r__law_take : Rx := (.seq (.sif (.cmp .Gt (.oIx 0 (.c (.int 0))) (.c (.int 0))) (.seq (.set 2 (.bin .Mod (.bi .int (.cons (.oIx 0 (.c (.int 0))) .nil)) (.v 1))) (.seq (.oSet 0 (.c (.int 0)) (.bin .FloorDiv (.oIx 0 (.c (.int 0))) (.v 1))) (.seq (.ret (.v 2)) .nx))) .nx) (.seq (.oSet 0 (.c (.int 1)) (.bin .Mod (.bi .int (.cons (.bin .Add (.bin .Mult (.oIx 0 (.c (.int 1))) (.c (.int 48271))) (.c (.int 11))) .nil)) (.c (.int 2147483647)))) (.seq (.ret (.bin .Mod (.bi .int (.cons (.bin .FloorDiv (.oIx 0 (.c (.int 1))) (.c (.int 7))) .nil)) (.v 1))) .nx)))
theorem c__law_take : chkSs { N := ["_law_state_here", "_law_m", "_law_value"], sc := defScope (top 15), pl := ownIx [true, false] 0, fns := [], free := ["int"], vals := [], excs := [], exm := [], exi := [] } r__law_take (defBody (top 15)) = true := by kernel_rfl
theorem s__law_take : FnScope ["_law_state_here", "_law_m", "_law_value"] ["_law_state_here", "_law_m"] (defScope (top 15)) := ⟨rfl, rfl, rfl, by decide +kernel, rfl, by decide +kernel, by decide +kernel⟩
theorem e__law_take : fnF [true, false] 3 (denS [] [] r__law_take) = F__law_take := rfl
abbrev d__law_take : He.DefD := ⟨("_law_take", none), "_law_take", "_law_take", defArgs (top 15), defBody (top 15), defScope (top 15), [], []⟩
def r__law_reason : Rx := (.seq (.tryIf (.seq (.drop (.call 0 (.cons (.v 0) (.cons (.v 1) .nil)))) .nx) 2 "Fault" [("Refused", true)] (.and (.is1 (.own "Refused") [("Refused", true)]) (.and (.is1 (.ty "ValueError") [("Refused", true)]) (.one (.not (.is2 (.own "Malformed") (.own "NoText") [("Refused", false)]))))) (.two (.c (.str "refused")) (.f ["Refused"] "reason"))) (.seq (.ret (.c .non)) .nx))
theorem c__law_reason : chkSs { N := ["_law_a", "_law_p", "e"], sc := defScope (top 16), pl := ownIx [false, false] 0, fns := [⟨"inverse", 2⟩], free := ["isinstance", "ValueError"], vals := [], excs := [⟨"Fault", none⟩, ⟨"Refused", some "reason"⟩, ⟨"Malformed", none⟩, ⟨"NoText", some "at"⟩], exm := [(("Refused", "Fault"), true)], exi := [(("Refused", [.own "Refused"]), true), (("Refused", [.ty "ValueError"]), true), (("Refused", [.own "Malformed", .own "NoText"]), false)] } r__law_reason (defBody (top 16)) = true := by kernel_rfl
theorem s__law_reason : FnScope ["_law_a", "_law_p", "e"] ["_law_a", "_law_p"] (defScope (top 16)) := ⟨rfl, rfl, rfl, by decide +kernel, rfl, by decide +kernel, by decide +kernel⟩
theorem e__law_reason : fnF [false, false] 3 (denS [F_inverse] [] r__law_reason) = F__law_reason := rfl
abbrev d__law_reason : He.DefD := ⟨("_law_reason", none), "_law_reason", "_law_reason", defArgs (top 16), defBody (top 16), defScope (top 16), [], []⟩
def r__law_is_prime : Rx := (.seq (.ret (.and (.cmp .Gt (.v 0) (.c (.int 1))) (.one (.cmp .Eq (.bi .len (.cons (.ml (.lc (.rng2 (.c (.int 2)) (.v 0)) [1] (.n 1) (.one (.cmp .Eq (.bin .Mult (.bin .FloorDiv (.v 0) (.v 1)) (.v 1)) (.v 0))) (.v 1))) .nil)) (.c (.int 0)))))) .nx)
theorem c__law_is_prime : chkSs { N := ["_law_n", "_law_d"], sc := defScope (top 17), pl := ownIx [false] 0, fns := [], free := ["len", "range"], vals := [], excs := [], exm := [], exi := [] } r__law_is_prime (defBody (top 17)) = true := by kernel_rfl
theorem s__law_is_prime : FnScope ["_law_n", "_law_d"] ["_law_n"] (defScope (top 17)) := ⟨rfl, rfl, rfl, by decide +kernel, rfl, by decide +kernel, by decide +kernel⟩
theorem e__law_is_prime : fnF [false] 2 (denS [] [] r__law_is_prime) = F__law_is_prime := rfl
abbrev d__law_is_prime : He.DefD := ⟨("_law_is_prime", none), "_law_is_prime", "_law_is_prime", defArgs (top 17), defBody (top 17), defScope (top 17), [], []⟩
def r_law : Rx := (.seq (.setO 1 (.call 9 (.cons (.v 0) .nil))) (.seq (.set 2 (.ix (.ml (.lst (.cons (.c (.int 2)) (.cons (.c (.int 3)) (.cons (.c (.int 5)) (.cons (.c (.int 7)) (.cons (.c (.int 11)) (.cons (.c (.int 13)) (.cons (.c (.int 17)) (.cons (.c (.int 19)) (.cons (.c (.int 23)) (.cons (.c (.int 29)) (.cons (.c (.int 31)) .nil))))))))))))) (.call 3 (.consO 1 (.cons (.c (.int 11)) .nil))))) (.seq (.set 3 (.bin .Sub (.call 3 (.consO 1 (.cons (.c (.int 2001)) .nil))) (.c (.int 1000)))) (.seq (.sif (.cmp .Eq (.bin .Mod (.bi .int (.cons (.v 3) .nil)) (.v 2)) (.c (.int 0))) (.seq (.sif (.cmp .NotEq (.call 7 (.cons (.v 3) (.cons (.v 2) .nil))) (.tup (.cons (.c (.str "refused")) (.cons (.c (.str "inverse")) .nil)))) (.seq (.ret (.c (.bl false))) .nx) .nx) .nx) (.seq (.set 4 (.call 8 (.cons (.v 3) (.cons (.v 2) .nil)))) (.seq (.sif (.or (.not (.chain .Lt .Lt (.c (.int 0)) (.v 4) (.v 2))) (.one (.cmp .NotEq (.bin .Mod (.bi .int (.cons (.bin .Mult (.v 3) (.v 4)) .nil)) (.v 2)) (.c (.int 1))))) (.seq (.ret (.c (.bl false))) .nx) .nx) .nx))) (.seq (.set 5 (.call 3 (.consO 1 (.cons (.c (.int 9)) .nil)))) (.seq (.set 6 (.c (.int 1))) (.seq (.for (.rng1 (.v 5)) (.n 7) (.seq (.set 6 (.bin .Mult (.v 6) (.v 3))) .nx)) (.seq (.set 8 (.bin .Add (.c (.int 1)) (.call 3 (.consO 1 (.cons (.c (.int 300)) .nil))))) (.seq (.setO 9 (.lst .nil)) (.seq (.for (.rng2 (.c (.int 2)) (.bin .Add (.v 8) (.c (.int 1)))) (.n 10) (.seq (.set 11 (.bi .len (.cons (.ml (.lc (.rng2 (.c (.int 1)) (.c (.int 9))) [5] (.n 5) (.one (.cmp .Eq (.bin .Mult (.bin .FloorDiv (.v 8) (.call 4 (.cons (.v 10) (.cons (.v 5) .nil)))) (.call 4 (.cons (.v 10) (.cons (.v 5) .nil)))) (.v 8))) (.v 5))) .nil))) (.seq (.sif (.and (.call 2 (.cons (.v 10) .nil)) (.one (.cmp .Gt (.v 11) (.c (.int 0))))) (.seq (.app 9 (.tup (.cons (.v 10) (.cons (.v 11) .nil)))) .nx) .nx) .nx))) (.seq (.sif (.or (.cmp .NotEq (.call 4 (.cons (.v 3) (.cons (.v 5) .nil))) (.v 6)) (.or (.cmp .NotEq (.call 5 (.cons (.v 8) .nil)) (.bi .tuple (.cons (.ml (.lc (.rng2 (.c (.int 1)) (.bin .Add (.v 8) (.c (.int 1)))) [10] (.n 10) (.one (.cmp .Eq (.bin .Mult (.bin .FloorDiv (.v 8) (.v 10)) (.v 10)) (.v 8))) (.v 10))) .nil))) (.one (.cmp .NotEq (.call 6 (.cons (.v 8) .nil)) (.bi .tuple (.cons (.v 9) .nil)))))) (.seq (.ret (.c (.bl false))) .nx) .nx) (.seq (.set 12 (.bin .Sub (.call 3 (.consO 1 (.cons (.c (.int 60)) .nil))) (.c (.int 5)))) (.seq (.set 13 (.call 1 (.cons (.v 12) .nil))) (.seq (.sif (.or (.not (.isi "bool" (.v 13))) (.one (.cmp .NotEq (.v 13) (.and (.cmp .Lt (.v 12) (.c (.int 32))) (.one (.call 2 (.cons (.v 12) .nil))))))) (.seq (.ret (.c (.bl false))) .nx) .nx) (.seq (.for (.one (.ml (.lst (.cons (.c (.bl true)) (.cons (.c (.bl false)) (.cons (.c .non) (.cons (.c (.str "2")) (.cons (.tup (.cons (.c (.int 2)) .nil)) (.cons (.ml (.lst (.cons (.c (.int 2)) .nil))) (.cons (.tup .nil) .nil)))))))))) (.n 14) (.seq (.sif (.or (.cmp .IsNot (.call 0 (.cons (.v 14) .nil)) (.c (.bl false))) (.one (.cmp .IsNot (.call 1 (.cons (.v 14) .nil)) (.c (.bl false))))) (.seq (.ret (.c (.bl false))) .nx) .nx) .nx)) (.seq (.ret (.cmp .Is (.call 0 (.cons (.v 3) .nil)) (.c (.bl true)))) .nx))))))))))))))))
theorem c_law : chkSs { N := ["_law_script", "_law_state_here", "_law_p", "_law_a", "_law_b", "_law_k", "_law_total", "_law_turn", "_law_n", "_law_due", "_law_d", "_law_most", "_law_m", "_law_told", "_law_value"], sc := defScope (top 18), pl := ownIx [false] 0, fns := [⟨"is_integer", 1⟩, ⟨"is_small_prime", 1⟩, ⟨"_law_is_prime", 1⟩, ⟨"_law_take", 2⟩, ⟨"power", 2⟩, ⟨"divisors", 1⟩, ⟨"factors", 1⟩, ⟨"_law_reason", 2⟩, ⟨"inverse", 2⟩, ⟨"_law_state", 1⟩], free := ["isinstance", "bool", "tuple", "range", "len", "int"], vals := [], excs := [], exm := [], exi := [] } r_law (defBody (top 18)) = true := by kernel_rfl
theorem s_law : FnScope ["_law_script", "_law_state_here", "_law_p", "_law_a", "_law_b", "_law_k", "_law_total", "_law_turn", "_law_n", "_law_due", "_law_d", "_law_most", "_law_m", "_law_told", "_law_value"] ["_law_script"] (defScope (top 18)) := ⟨rfl, rfl, rfl, by decide +kernel, rfl, by decide +kernel, by decide +kernel⟩
theorem e_law : fnF [false] 15 (denS [F_is_integer, F_is_small_prime, F__law_is_prime, F__law_take, F_power, F_divisors, F_factors, F__law_reason, F_inverse, F__law_state] [] r_law) = F_law := rfl
abbrev d_law : He.DefD := ⟨("law", none), "law", "law", defArgs (top 18), defBody (top 18), defScope (top 18), [], []⟩
def fn : List He.DefD := [d_is_integer, d_is_small_prime, d_power, d_inverse, d_factors, d_divisors, d__law_state, d__law_take, d__law_reason, d__law_is_prime, d_law]
def fa : List He.Fa := [.glo "is_integer", .glo "is_small_prime", .glo "power", .glo "inverse", .glo "factors", .glo "divisors", .glo "_law_state", .glo "_law_take", .glo "_law_reason", .glo "_law_is_prime", .glo "law", .free "isinstance", .free "int", .free "bool", .free "range", .free "tuple", .free "abs", .free "ValueError", .free "len", .glo "PRIMES", .free "super", .glo "Refused", .glo "Fault", .exc "Fault", .glo "Malformed", .exc "Malformed", .glo "NoText", .exm "Refused" "Fault" true]
abbrev sd_Refused : SupD := ⟨"Refused", defArgs (inClass (top 3) 0), defBody (inClass (top 3) 0), defScope (inClass (top 3) 0), "reason", PW.main.file⟩
abbrev sd_NoText : SupD := ⟨"NoText", defArgs (inClass (top 4) 0), defBody (inClass (top 4) 0), defScope (inClass (top 4) 0), "at", PW.main.file⟩
def fc : List SupD := [sd_Refused, sd_NoText]
def ex : List (PySem.W.Frag → Bool) := [isFB (("Refused", [.own "Refused"]), true), isFB (("Refused", [.ty "ValueError"]), true), isFB (("Refused", [.own "Malformed", .own "NoText"]), false), (fun K => He.tupB K "PRIMES" (([2, 3, 5, 7, 11, 13, 17, 19, 23, 29, 31] : List Int).map He.Dv.int))]
abbrev P : Program := PySem.W.OpenLaw.prog PySem.Challenge.rw_polychains_k00_numbers
abbrev R : PySem.W.OpenRow := PySem.W.OpenLaw.row PySem.Challenge.rw_polychains_k00_numbers
abbrev hk : PySem.W.Hook := DL.hookE 4 fa fn fc ex
def ob (s : PySem.W.SharedT) : DL.AlE := DL.obsEG 4 fa fn fc ex (HandSHeadRun.getT s)
theorem ob_eq (s : PySem.W.SharedT) : ob s = hk.obs s.abs := DL.obsEG_eq (HandSHeadRun.getT_eq s)
def loose : List PySem.Str := (["Fault", "Malformed", "Refused", "NoText", "PRIMES", "is_integer", "is_small_prime", "power", "inverse", "factors", "divisors", "_law_state", "_law_take", "_law_reason", "_law_is_prime"] : List PySem.Str)
theorem run (w : World) : HandSHeadRun.RunEq R (PySem.W.view R.prog [18]) hk ob 6000 loose w := by
  intro os
  kernel_rfl
section
variable {w : World} {K : PySem.W.Frag} {h base : Heap} {mg : PySem.Str → Option Value}
theorem t_Refused : ∃ e, SupT P sd_Refused "self" "reason" e ∧ (∀ env : PySem.Env, starEach [e] env = [(false, eval e env)]) ∧ ∀ (w : World) (fd : FuncData) (f L : Addr), fd.scope = sd_Refused.scope → Quiet P w (callEnv fd L f) "reason" e := ⟨(.Name "reason" _), ⟨⟨_, _, _, _, _, _, _, _, _, rfl, fun env => ⟨_, rfl⟩⟩, ⟨_, rfl, rfl⟩, by kernel_rfl, fun _ _ _ _ _ _ _ _ _ us hl => match us, hl with | [_, _], _ => rfl, by kernel_rfl, by kernel_rfl⟩, fun env => rfl, fun w fd f L e => quiet_name (by rw [e]; rfl) (by rw [e]; rfl) (by decide) L⟩
theorem xc_Refused (X : K.In h) (G : h.Ns mainGlobals mg) (c : DL.SaysE fa fn fc ex K) (base : Heap) : GExc P w K mg base ⟨"Refused", some "reason"⟩ := by
  obtain ⟨e, T, h1, h2⟩ := t_Refused
  exact sup_gexc (d := sd_Refused) (He.glo_ok X G (c.toD.fact 21 (f := .glo "Refused") rfl)) (He.free_ok X G (c.toD.fact 20 (f := .free "super") rfl)) T h1 (h2 w) (c.sup 0 (d := sd_Refused) rfl).1 (c.sup 0 (d := sd_Refused) rfl).2 base
theorem xc_Fault (X : K.In h) (G : h.Ns mainGlobals mg) (c : DL.SaysE fa fn fc ex K) (base : Heap) : GExc P w K mg base ⟨"Fault", none⟩ := gexc_own (He.glo_ok X G (c.toD.fact 22 (f := .glo "Fault") rfl)) (c.toD.fact 23 (f := .exc "Fault") rfl)
theorem xc_Malformed (X : K.In h) (G : h.Ns mainGlobals mg) (c : DL.SaysE fa fn fc ex K) (base : Heap) : GExc P w K mg base ⟨"Malformed", none⟩ := gexc_own (He.glo_ok X G (c.toD.fact 24 (f := .glo "Malformed") rfl)) (c.toD.fact 25 (f := .exc "Malformed") rfl)
theorem t_NoText : ∃ e, SupT P sd_NoText "self" "at" e ∧ (∀ env : PySem.Env, starEach [e] env = [(false, eval e env)]) ∧ ∀ (w : World) (fd : FuncData) (f L : Addr), fd.scope = sd_NoText.scope → Quiet P w (callEnv fd L f) "at" e := ⟨_, ⟨⟨_, _, _, _, _, _, _, _, _, rfl, fun env => ⟨_, rfl⟩⟩, ⟨_, rfl, rfl⟩, by kernel_rfl, fun _ _ _ _ _ _ _ _ _ us hl => match us, hl with | [_, _], _ => rfl, by kernel_rfl, by kernel_rfl⟩, fun env => rfl, fun w fd f L e => quiet_str⟩
theorem xc_NoText (X : K.In h) (G : h.Ns mainGlobals mg) (c : DL.SaysE fa fn fc ex K) (base : Heap) : GExc P w K mg base ⟨"NoText", some "at"⟩ := by
  obtain ⟨e, T, h1, h2⟩ := t_NoText
  exact sup_gexc (d := sd_NoText) (He.glo_ok X G (c.toD.fact 26 (f := .glo "NoText") rfl)) (He.free_ok X G (c.toD.fact 20 (f := .free "super") rfl)) T h1 (h2 w) (c.sup 1 (d := sd_NoText) rfl).1 (c.sup 1 (d := sd_NoText) rfl).2 base
theorem x_inverse (X : K.In h) (G : h.Ns mainGlobals mg) (c : DL.SaysE fa fn fc ex K) (base : Heap) : GlobX P w K mg base 2 [⟨"Refused", some "reason"⟩] [] [] := ⟨fun g hg => (by simp only [List.mem_cons, List.not_mem_nil, or_false] at hg; subst hg; exact xc_Refused X G c base), fun q hq => (by simp at hq), fun _ => by decide, fun q hq => (by simp at hq)⟩
theorem x__law_reason (X : K.In h) (G : h.Ns mainGlobals mg) (c : DL.SaysE fa fn fc ex K) (base : Heap) : GlobX P w K mg base 3 [⟨"Fault", none⟩, ⟨"Refused", some "reason"⟩, ⟨"Malformed", none⟩, ⟨"NoText", some "at"⟩] [(("Refused", "Fault"), true)] [(("Refused", [.own "Refused"]), true), (("Refused", [.ty "ValueError"]), true), (("Refused", [.own "Malformed", .own "NoText"]), false)] := ⟨fun g hg => (by simp only [List.mem_cons, List.not_mem_nil, or_false] at hg; rcases hg with rfl | rfl | rfl | rfl <;> first | exact xc_Fault X G c base | exact xc_Refused X G c base | exact xc_Malformed X G c base | exact xc_NoText X G c base), fun q hq => (by simp only [List.mem_cons, List.not_mem_nil, or_false] at hq; subst hq; exact of_decide_eq_true (c.toD.fact 27 (f := .exm "Refused" "Fault" true) rfl)), fun _ => by decide, fun q hq => (by simp only [List.mem_cons, List.not_mem_nil, or_false] at hq; rcases hq with rfl | rfl | rfl <;> first | exact isFB_ok (c.ext 0 (f := isFB (("Refused", [.own "Refused"]), true)) rfl) | exact isFB_ok (c.ext 1 (f := isFB (("Refused", [.ty "ValueError"]), true)) rfl) | exact isFB_ok (c.ext 2 (f := isFB (("Refused", [.own "Malformed", .own "NoText"]), false)) rfl))⟩
theorem v_is_small_prime (X : K.In h) (G : h.Ns mainGlobals mg) (c : DL.SaysE fa fn fc ex K) : ∀ (j : Nat) (x : PySem.Str), (([("PRIMES", G_PRIMES)] : List (PySem.Str × D))[j]?).map (·.1) = some x → ∃ u v, mg x = some u ∧ RelV v u ∧ ∀ H, VR K H (([G_PRIMES] : List D).getD j .non) v := fun j x hj =>
  match j, hj with
  | 0, hj => by
    cases hj
    exact glob_tup (He.glo_ok X G (c.toD.fact 19 (f := .glo "PRIMES") rfl)) (c.ext 3 (f := fun K => He.tupB K "PRIMES" (([2, 3, 5, 7, 11, 13, 17, 19, 23, 29, 31] : List Int).map He.Dv.int)) rfl)
  | j + 1, hj => by simp at hj
theorem fr_is_integer (X : K.In h) (G : h.Ns mainGlobals mg) (c : DL.SaysE fa fn fc ex K) : ∀ x, ((["isinstance", "int", "bool"] : List PySem.Str)).elem x = true → mg x = none := by
  intro x hx
  simp only [List.elem_eq_mem, List.mem_cons, List.not_mem_nil, or_false, decide_eq_true_eq] at hx
  rcases hx with rfl | rfl | rfl
  · exact He.free_ok X G (c.toD.fact 11 (f := .free "isinstance") rfl)
  · exact He.free_ok X G (c.toD.fact 12 (f := .free "int") rfl)
  · exact He.free_ok X G (c.toD.fact 13 (f := .free "bool") rfl)
theorem g_is_integer (X : K.In h) (G : h.Ns mainGlobals mg) (c : DL.SaysE fa fn fc ex K) : GOk P w K mg base 1 ⟨"is_integer", 1⟩ F_is_integer := by
  obtain ⟨fd, F⟩ := c.toD.def_ 0 (d := d_is_integer) rfl
  exact gok_of F s_is_integer rfl (fns := _) (fs := _) gf_nil ⟨fr_is_integer X G c, fun j x hj => by simp at hj⟩ globX_nil c_is_integer (He.glo_ok X G (c.toD.fact 0 (f := .glo "is_integer") rfl)) (F.bindsN fun _ _ _ _ _ _ us hl => match us, hl with | [_], _ => rfl) rfl e_is_integer
theorem fr_is_small_prime (X : K.In h) (G : h.Ns mainGlobals mg) (c : DL.SaysE fa fn fc ex K) : ∀ x, (([] : List PySem.Str)).elem x = true → mg x = none := fun x hx => by cases hx
theorem g_is_small_prime (X : K.In h) (G : h.Ns mainGlobals mg) (c : DL.SaysE fa fn fc ex K) : GOk P w K mg base 2 ⟨"is_small_prime", 1⟩ F_is_small_prime := by
  obtain ⟨fd, F⟩ := c.toD.def_ 1 (d := d_is_small_prime) rfl
  exact gok_of F s_is_small_prime rfl (fns := _) (fs := _) (gf_cons ((g_is_integer X G c).mono (by decide)) gf_nil) ⟨fr_is_small_prime X G c, v_is_small_prime X G c⟩ globX_nil c_is_small_prime (He.glo_ok X G (c.toD.fact 1 (f := .glo "is_small_prime") rfl)) (F.bindsN fun _ _ _ _ _ _ us hl => match us, hl with | [_], _ => rfl) rfl e_is_small_prime
theorem fr_power (X : K.In h) (G : h.Ns mainGlobals mg) (c : DL.SaysE fa fn fc ex K) : ∀ x, ((["range"] : List PySem.Str)).elem x = true → mg x = none := by
  intro x hx
  simp only [List.elem_eq_mem, List.mem_cons, List.not_mem_nil, or_false, decide_eq_true_eq] at hx
  subst hx
  exact He.free_ok X G (c.toD.fact 14 (f := .free "range") rfl)
theorem g_power (X : K.In h) (G : h.Ns mainGlobals mg) (c : DL.SaysE fa fn fc ex K) : GOk P w K mg base 1 ⟨"power", 2⟩ F_power := by
  obtain ⟨fd, F⟩ := c.toD.def_ 2 (d := d_power) rfl
  exact gok_of F s_power rfl (fns := _) (fs := _) gf_nil ⟨fr_power X G c, fun j x hj => by simp at hj⟩ globX_nil c_power (He.glo_ok X G (c.toD.fact 2 (f := .glo "power") rfl)) (F.bindsN fun _ _ _ _ _ _ us hl => match us, hl with | [_, _], _ => rfl) rfl e_power
theorem fr_inverse (X : K.In h) (G : h.Ns mainGlobals mg) (c : DL.SaysE fa fn fc ex K) : ∀ x, ((["range"] : List PySem.Str)).elem x = true → mg x = none := by
  intro x hx
  simp only [List.elem_eq_mem, List.mem_cons, List.not_mem_nil, or_false, decide_eq_true_eq] at hx
  subst hx
  exact He.free_ok X G (c.toD.fact 14 (f := .free "range") rfl)
theorem g_inverse (X : K.In h) (G : h.Ns mainGlobals mg) (c : DL.SaysE fa fn fc ex K) : GOk P w K mg base 3 ⟨"inverse", 2⟩ F_inverse := by
  obtain ⟨fd, F⟩ := c.toD.def_ 3 (d := d_inverse) rfl
  exact gok_of F s_inverse rfl (fns := _) (fs := _) gf_nil ⟨fr_inverse X G c, fun j x hj => by simp at hj⟩ (x_inverse X G c _) c_inverse (He.glo_ok X G (c.toD.fact 3 (f := .glo "inverse") rfl)) (F.bindsN fun _ _ _ _ _ _ us hl => match us, hl with | [_, _], _ => rfl) rfl e_inverse
theorem fr_factors (X : K.In h) (G : h.Ns mainGlobals mg) (c : DL.SaysE fa fn fc ex K) : ∀ x, ((["tuple"] : List PySem.Str)).elem x = true → mg x = none := by
  intro x hx
  simp only [List.elem_eq_mem, List.mem_cons, List.not_mem_nil, or_false, decide_eq_true_eq] at hx
  subst hx
  exact He.free_ok X G (c.toD.fact 15 (f := .free "tuple") rfl)
theorem g_factors (X : K.In h) (G : h.Ns mainGlobals mg) (c : DL.SaysE fa fn fc ex K) : GOk P w K mg base 1 ⟨"factors", 1⟩ F_factors := by
  obtain ⟨fd, F⟩ := c.toD.def_ 4 (d := d_factors) rfl
  exact gok_of F s_factors rfl (fns := _) (fs := _) gf_nil ⟨fr_factors X G c, fun j x hj => by simp at hj⟩ globX_nil c_factors (He.glo_ok X G (c.toD.fact 4 (f := .glo "factors") rfl)) (F.bindsN fun _ _ _ _ _ _ us hl => match us, hl with | [_], _ => rfl) rfl e_factors
theorem fr_divisors (X : K.In h) (G : h.Ns mainGlobals mg) (c : DL.SaysE fa fn fc ex K) : ∀ x, ((["tuple", "range"] : List PySem.Str)).elem x = true → mg x = none := by
  intro x hx
  simp only [List.elem_eq_mem, List.mem_cons, List.not_mem_nil, or_false, decide_eq_true_eq] at hx
  rcases hx with rfl | rfl
  · exact He.free_ok X G (c.toD.fact 15 (f := .free "tuple") rfl)
  · exact He.free_ok X G (c.toD.fact 14 (f := .free "range") rfl)
theorem g_divisors (X : K.In h) (G : h.Ns mainGlobals mg) (c : DL.SaysE fa fn fc ex K) : GOk P w K mg base 1 ⟨"divisors", 1⟩ F_divisors := by
  obtain ⟨fd, F⟩ := c.toD.def_ 5 (d := d_divisors) rfl
  exact gok_of F s_divisors rfl (fns := _) (fs := _) gf_nil ⟨fr_divisors X G c, fun j x hj => by simp at hj⟩ globX_nil c_divisors (He.glo_ok X G (c.toD.fact 5 (f := .glo "divisors") rfl)) (F.bindsN fun _ _ _ _ _ _ us hl => match us, hl with | [_], _ => rfl) rfl e_divisors
theorem fr__law_state (X : K.In h) (G : h.Ns mainGlobals mg) (c : DL.SaysE fa fn fc ex K) : ∀ x, ((["int", "abs"] : List PySem.Str)).elem x = true → mg x = none := by
  intro x hx
  simp only [List.elem_eq_mem, List.mem_cons, List.not_mem_nil, or_false, decide_eq_true_eq] at hx
  rcases hx with rfl | rfl
  · exact He.free_ok X G (c.toD.fact 12 (f := .free "int") rfl)
  · exact He.free_ok X G (c.toD.fact 16 (f := .free "abs") rfl)
theorem g__law_state (X : K.In h) (G : h.Ns mainGlobals mg) (c : DL.SaysE fa fn fc ex K) : GOk P w K mg base 1 ⟨"_law_state", 1⟩ F__law_state := by
  obtain ⟨fd, F⟩ := c.toD.def_ 6 (d := d__law_state) rfl
  exact gok_of F s__law_state rfl (fns := _) (fs := _) gf_nil ⟨fr__law_state X G c, fun j x hj => by simp at hj⟩ globX_nil c__law_state (He.glo_ok X G (c.toD.fact 6 (f := .glo "_law_state") rfl)) (F.bindsN fun _ _ _ _ _ _ us hl => match us, hl with | [_], _ => rfl) rfl e__law_state
theorem fr__law_take (X : K.In h) (G : h.Ns mainGlobals mg) (c : DL.SaysE fa fn fc ex K) : ∀ x, ((["int"] : List PySem.Str)).elem x = true → mg x = none := by
  intro x hx
  simp only [List.elem_eq_mem, List.mem_cons, List.not_mem_nil, or_false, decide_eq_true_eq] at hx
  subst hx
  exact He.free_ok X G (c.toD.fact 12 (f := .free "int") rfl)
theorem g__law_take (X : K.In h) (G : h.Ns mainGlobals mg) (c : DL.SaysE fa fn fc ex K) : GOk P w K mg base 1 ⟨"_law_take", 2⟩ F__law_take := by
  obtain ⟨fd, F⟩ := c.toD.def_ 7 (d := d__law_take) rfl
  exact gok_of F s__law_take rfl (fns := _) (fs := _) gf_nil ⟨fr__law_take X G c, fun j x hj => by simp at hj⟩ globX_nil c__law_take (He.glo_ok X G (c.toD.fact 7 (f := .glo "_law_take") rfl)) (F.bindsN fun _ _ _ _ _ _ us hl => match us, hl with | [_, _], _ => rfl) rfl e__law_take
theorem fr__law_reason (X : K.In h) (G : h.Ns mainGlobals mg) (c : DL.SaysE fa fn fc ex K) : ∀ x, ((["isinstance", "ValueError"] : List PySem.Str)).elem x = true → mg x = none := by
  intro x hx
  simp only [List.elem_eq_mem, List.mem_cons, List.not_mem_nil, or_false, decide_eq_true_eq] at hx
  rcases hx with rfl | rfl
  · exact He.free_ok X G (c.toD.fact 11 (f := .free "isinstance") rfl)
  · exact He.free_ok X G (c.toD.fact 17 (f := .free "ValueError") rfl)
theorem g__law_reason (X : K.In h) (G : h.Ns mainGlobals mg) (c : DL.SaysE fa fn fc ex K) : GOk P w K mg base 4 ⟨"_law_reason", 2⟩ F__law_reason := by
  obtain ⟨fd, F⟩ := c.toD.def_ 8 (d := d__law_reason) rfl
  exact gok_of F s__law_reason rfl (fns := _) (fs := _) (gf_cons ((g_inverse X G c).mono (by decide)) gf_nil) ⟨fr__law_reason X G c, fun j x hj => by simp at hj⟩ (x__law_reason X G c _) c__law_reason (He.glo_ok X G (c.toD.fact 8 (f := .glo "_law_reason") rfl)) (F.bindsN fun _ _ _ _ _ _ us hl => match us, hl with | [_, _], _ => rfl) rfl e__law_reason
theorem fr__law_is_prime (X : K.In h) (G : h.Ns mainGlobals mg) (c : DL.SaysE fa fn fc ex K) : ∀ x, ((["len", "range"] : List PySem.Str)).elem x = true → mg x = none := by
  intro x hx
  simp only [List.elem_eq_mem, List.mem_cons, List.not_mem_nil, or_false, decide_eq_true_eq] at hx
  rcases hx with rfl | rfl
  · exact He.free_ok X G (c.toD.fact 18 (f := .free "len") rfl)
  · exact He.free_ok X G (c.toD.fact 14 (f := .free "range") rfl)
theorem g__law_is_prime (X : K.In h) (G : h.Ns mainGlobals mg) (c : DL.SaysE fa fn fc ex K) : GOk P w K mg base 1 ⟨"_law_is_prime", 1⟩ F__law_is_prime := by
  obtain ⟨fd, F⟩ := c.toD.def_ 9 (d := d__law_is_prime) rfl
  exact gok_of F s__law_is_prime rfl (fns := _) (fs := _) gf_nil ⟨fr__law_is_prime X G c, fun j x hj => by simp at hj⟩ globX_nil c__law_is_prime (He.glo_ok X G (c.toD.fact 9 (f := .glo "_law_is_prime") rfl)) (F.bindsN fun _ _ _ _ _ _ us hl => match us, hl with | [_], _ => rfl) rfl e__law_is_prime
theorem fr_law (X : K.In h) (G : h.Ns mainGlobals mg) (c : DL.SaysE fa fn fc ex K) : ∀ x, ((["isinstance", "bool", "tuple", "range", "len", "int"] : List PySem.Str)).elem x = true → mg x = none := by
  intro x hx
  simp only [List.elem_eq_mem, List.mem_cons, List.not_mem_nil, or_false, decide_eq_true_eq] at hx
  rcases hx with rfl | rfl | rfl | rfl | rfl | rfl
  · exact He.free_ok X G (c.toD.fact 11 (f := .free "isinstance") rfl)
  · exact He.free_ok X G (c.toD.fact 13 (f := .free "bool") rfl)
  · exact He.free_ok X G (c.toD.fact 15 (f := .free "tuple") rfl)
  · exact He.free_ok X G (c.toD.fact 14 (f := .free "range") rfl)
  · exact He.free_ok X G (c.toD.fact 18 (f := .free "len") rfl)
  · exact He.free_ok X G (c.toD.fact 12 (f := .free "int") rfl)
theorem g_law (X : K.In h) (G : h.Ns mainGlobals mg) (c : DL.SaysE fa fn fc ex K) : GOk P w K mg base 5 ⟨"law", 1⟩ F_law := by
  obtain ⟨fd, F⟩ := c.toD.def_ 10 (d := d_law) rfl
  exact gok_of F s_law rfl (fns := _) (fs := _) (gf_cons ((g_is_integer X G c).mono (by decide)) (gf_cons ((g_is_small_prime X G c).mono (by decide)) (gf_cons ((g__law_is_prime X G c).mono (by decide)) (gf_cons ((g__law_take X G c).mono (by decide)) (gf_cons ((g_power X G c).mono (by decide)) (gf_cons ((g_divisors X G c).mono (by decide)) (gf_cons ((g_factors X G c).mono (by decide)) (gf_cons ((g__law_reason X G c).mono (by decide)) (gf_cons ((g_inverse X G c).mono (by decide)) (gf_cons ((g__law_state X G c).mono (by decide)) gf_nil)))))))))) ⟨fr_law X G c, fun j x hj => by simp at hj⟩ globX_nil c_law (He.glo_ok X G (c.toD.fact 10 (f := .glo "law") rfl)) (F.bindsN fun _ _ _ _ _ _ us hl => match us, hl with | [_], _ => rfl) rfl e_law
theorem law_fn {f : Addr} (X : K.In h) (G : h.Ns mainGlobals mg) (hm : mg "law" = some (.ref f)) (c : DL.SaysE fa fn fc ex K) : ∃ fd : FuncData, (∀ (s : Shared) (v : Value), BindsTo s fd ⟨[v], []⟩ [("_law_script", v)]) ∧ ∀ base : Heap, K.In base → base.Ns mainGlobals mg → FnOk P w K mg base (L2.CX P w) 5 f fd ["_law_script"] (spD K 1 F_law) := by
  obtain ⟨fd, F⟩ := c.toD.def_ 10 (d := d_law) rfl
  have e := hm.symm.trans (He.glo_ok X G (c.toD.fact 10 (f := .glo "law") rfl))
  cases e
  have b := FunD.bindsA (ps := ["_law_script"]) F fun _ _ _ _ _ _ us hl => match us, hl with | [_], _ => rfl
  exact ⟨fd, fun s v => b s [v] rfl, fun base _ _ => e_law ▸ def_ok F s_law rfl (fns := _) (fs := _) (gf_cons ((g_is_integer X G c).mono (by decide)) (gf_cons ((g_is_small_prime X G c).mono (by decide)) (gf_cons ((g__law_is_prime X G c).mono (by decide)) (gf_cons ((g__law_take X G c).mono (by decide)) (gf_cons ((g_power X G c).mono (by decide)) (gf_cons ((g_divisors X G c).mono (by decide)) (gf_cons ((g_factors X G c).mono (by decide)) (gf_cons ((g__law_reason X G c).mono (by decide)) (gf_cons ((g_inverse X G c).mono (by decide)) (gf_cons ((g__law_state X G c).mono (by decide)) gf_nil)))))))))) ⟨fr_law X G c, fun j x hj => by simp at hj⟩ globX_nil c_law⟩
end
end K00
open PySem PySem.W PySem.Calls PyProof.Rows
theorem PySem.Challenge.cw_polychains_k00_numbers_holds : PySem.Challenge.rw_polychains_k00_numbers.Holds := by
  w_on; o_law
  refine HandSHeadRun.head_any (r := OpenLaw.row PySem.Challenge.rw_polychains_k00_numbers) (q := view (OpenLaw.row PySem.Challenge.rw_polychains_k00_numbers).prog [18]) (H := K00.hk) (ob := K00.ob) (M := 6000) (loose := K00.loose) (d := HandSHeadRun.topDef (OpenLaw.row PySem.Challenge.rw_polychains_k00_numbers).prog 18) (kwd := []) K00.ob_eq
    (by kernel_rfl) (fun s => by kernel_rfl) K00.run (by kernel_rfl) (by kernel_rfl) (by kernel_rfl) (by rfl) (by first | assumption | decide +kernel) (by decide +kernel) ⟨rfl, rfl, rfl, rfl, rfl, by decide +kernel⟩ ?hw ?hc
  case hw => w_witness2
  case hc =>
    exact DL.law_endE (k := 5) (x := "_law_script") (nm := "law") rfl (by kernel_rfl) ⟨rfl, by decide, by decide⟩ (by kernel_rfl) K00.law_true fun w K mg f h X G hm c => K00.law_fn X G hm c

