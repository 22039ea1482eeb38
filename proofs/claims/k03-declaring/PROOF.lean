import PyProof.Rows.All
import Wide.All
import OpenK.AllK
import Wide.FinOn
import HandS.ForMost
import HandS.Deep
import HandS.ForExc
import HandS.Defaults
import HandS.IsInst
import HandS.TupAny
import HandS.TupLe
import HandS.CallSlots
import HandS.MakeKwOnly
import HandS.ClsMeth
import HandS.IterVal
import KE.KOwnIter
import HandS.Head0
import HandS.Head1
import HandS.Head2
import HandS.HeadEnd
import HandS.HeadHook1
import HandS.HeadHook2
import HandS.HeadNt
import HandS.Codes
import PySem.Challenge.RW_twicebased_k03_declaring
set_option Elab.async false
set_option linter.all false
set_option maxRecDepth 100000
namespace Tw
open PySem
/-- data: a Python value without the heap -/
inductive D where
  | non | bl (b : Bool) | int (i : Int) | str (s : Str) | cls (n : String)
  | scr (ns : List Int) | gst (j : Nat)
  | tup (l : List D) | lst (l : List D)
  | dct (ks : List Str) (vs : List D)
  | obj (c : String) (ks : List Str) (vs : List D)
  deriving Inhabited
/-- an exception: its class, its fields -/
structure Ex where
  cls : String
  ks : List Str
  vs : List D
/-- what comes of a piece of text: a value, an exception, or nothing is said -/
inductive R (α : Type) where
  | ok (a : α) | ex (e : Ex) | no
/-- an operation that raises nothing -/
def R.of {α : Type} : Option α → R α
  | some a => .ok a
  | none => .no
@[simp] theorem R.of_some {α : Type} (a : α) : R.of (some a) = .ok a := rfl
@[simp] theorem R.of_none {α : Type} : R.of (none : Option α) = .no := rfl
def R.bind {α β : Type} : R α → (α → R β) → R β
  | .ok a, f => f a
  | .ex e, _ => .ex e
  | .no, _ => .no
@[simp] theorem R.bind_ok {α β : Type} (a : α) (f : α → R β) : (R.ok a).bind f = f a := rfl
@[simp] theorem R.bind_ex {α β : Type} (e : Ex) (f : α → R β) : (R.ex e : R α).bind f = .ex e := rfl
@[simp] theorem R.bind_no {α β : Type} (f : α → R β) : (R.no : R α).bind f = .no := rfl
/-- a name's content: a value; a container of the def's own (nobody else holds it); the object under construction -/
inductive Slot where
  | val (d : D) | own (d : D) | slf (d : D) | gho (d : D)
abbrev DEnv := List (Option Slot)
abbrev DE := DEnv → R D
abbrev DT := DEnv → R Bool
abbrev DA := DEnv → R (List D)
abbrev DI := DEnv → R (List D)
abbrev DG := D → DEnv → R DEnv
inductive Out where
  | nx (ρ : DEnv) | rt (d : D) (ρ : DEnv) | bk (ρ : DEnv) | ct (ρ : DEnv) | xx (e : Ex) (ρ : DEnv)
abbrev DS := DEnv → R Out
def atD {α : Type} (l : List α) (i : Int) : Option α :=
  if 0 ≤ i then l[i.toNat]? else if -(l.length : Int) ≤ i then l[(i + l.length).toNat]? else none
def lookD : List Str → List D → Str → Option D
  | k :: ks, v :: vs, x => if x = k then some v else lookD ks vs x
  | _, _, _ => none
/-- the pair is put: replaced, or at the end -/
def putDk (x : Str) : List Str → List Str
  | [] => [x]
  | k :: ks => if x = k then k :: ks else k :: putDk x ks
def putDv (x : Str) (y : D) : List Str → List D → List D
  | k :: ks, v :: vs => if x = k then y :: vs else v :: putDv x y ks vs
  | _, _ => [y]
/-- a dict's pair is put: replaced wherever it stands, or at the end -/
def repDv (x : Str) (y : D) : List Str → List D → List D
  | k :: ks, v :: vs => (if k = x then y else v) :: repDv x y ks vs
  | _, _ => []
def dPutK (x : Str) (ks : List Str) : List Str := if x ∈ ks then ks else ks ++ [x]
def dPutV (x : Str) (y : D) (ks : List Str) (vs : List D) : List D := if x ∈ ks then repDv x y ks vs else vs ++ [y]
def sIxD (n : Nat) (d : Nat) : Option Int → Nat
  | none => d
  | some i => if i < 0 then (i + n).toNat else min i.toNat n
def cutD {α : Type} (l : List α) (lo hi : Option Int) : List α := (l.drop (sIxD l.length 0 lo)).take (sIxD l.length l.length hi - sIxD l.length 0 lo)
def strOkD (x : Str) : Bool := x.cps.all (· < 0x110000)
mutual
/-- Python's == of data -/
def deq : D → D → Bool
  | .non, .non => true
  | .bl a, .bl b => a == b
  | .bl a, .int j => (if a then 1 else 0) == j
  | .int i, .bl b => i == (if b then 1 else 0)
  | .int i, .int j => i == j
  | .str a, .str b => a == b
  | .lst a, .lst b => deqL a b
  | .tup a, .tup b => deqL a b
  | _, _ => false
def deqL : List D → List D → Bool
  | [], [] => true
  | x :: xs, y :: ys => deq x y && deqL xs ys
  | _, _ => false
end
/-- data of the first kinds, texts of true signs, k deep at most -/
def shp : Nat → D → Bool
  | _, .non => true
  | _, .bl _ => true
  | _, .int _ => true
  | _, .str s => strOkD s
  | 0, _ => false
  | k + 1, .lst l => l.all (shp k)
  | k + 1, .tup l => l.all (shp k)
  | _, _ => false
def flatD : D → Bool
  | .non => true | .bl _ => true | .int _ => true | .str _ => true | _ => false
def lineD : Nat := 16777216
/-- the attributes of the program's classes -/
def fldOf : String → List Str
  | "Titled" => ["title"]
  | "Base" => ["title", "is_shared"]
  | "Declaring" => ["names", "statics"]
  | "Draft" => ["title", "names", "statics", "bases"]
  | "Kind" => ["title", "names", "statics", "bases", "above", "shared_bases"]
  | "Library" => ["kinds", "places", "names"]
  | "Table" => ["title", "live", "rows"]
  | "Whole" => ["title", "rows", "answers"]
  | _ => []
def w64 (i : Int) : Prop := -(2 ^ 64) < i ∧ i < 2 ^ 64
instance (n : Int) : Decidable (w64 n) := by unfold w64; infer_instance
theorem w64_of {n : Int} (h : -1000000000000000000 < n) (k : n < 1000000000000000000) : w64 n := by unfold w64; omega
def oAdd : D → D → Option D
  | .int i, .int j => some (.int (i + j))
  | .str a, .str b => if a.length + b.length ≤ lineD then some (.str (a ++ b)) else none
  | .lst a, .lst b => if a.length + b.length ≤ lineD then some (.lst (a ++ b)) else none
  | .tup a, .tup b => if a.length + b.length ≤ lineD then some (.tup (a ++ b)) else none
  | _, _ => none
def oSub : D → D → Option D
  | .int i, .int j => some (.int (i - j))
  | _, _ => none
def repS (s : Str) : Nat → Str
  | 0 => Str.empty
  | n + 1 => s ++ repS s n
def oMul : D → D → Option D
  | .int i, .int j => if w64 i ∨ w64 j then some (.int (i * j)) else none
  | .lst a, .int k => if -(2 ^ 63) ≤ k ∧ k < 2 ^ 63 ∧ a.length * k.toNat ≤ lineD then some (.lst ((List.replicate k.toNat a).flatten)) else none
  | .str s, .int k => if 0 ≤ k ∧ k ≤ 1 then some (.str (repS s k.toNat)) else none
  | _, _ => none
def oFdiv : D → D → Option D
  | .int i, .int j => if 0 < j ∧ j < 1073741824 then some (.int (i / j)) else none
  | _, _ => none
def oMod : D → D → Option D
  | .int i, .int j => if 0 < j then some (.int (i % j)) else none
  | _, _ => none
def oPow : D → D → Option D
  | .int i, .int j => if 0 ≤ j ∧ j ≤ 1000000 ∧ i.natAbs < 2 ^ 64 then some (.int (i ^ j.toNat)) else none
  | _, _ => none
def oLt : D → D → Option D
  | .int i, .int j => some (.bl (decide (i < j)))
  | _, _ => none
def oLe : D → D → Option D
  | .int i, .int j => some (.bl (decide (i ≤ j)))
  | _, _ => none
def oGt : D → D → Option D
  | .int i, .int j => some (.bl (decide (j < i)))
  | _, _ => none
def oGe : D → D → Option D
  | .int i, .int j => some (.bl (decide (j ≤ i)))
  | _, _ => none
/-- pairs of flat data that are compared at once -/
def scalD : D → D → Bool
  | .non, .non => true | .non, .int _ => true | .int _, .non => true | .non, .bl _ => true | .bl _, .non => true | .non, .str _ => true | .str _, .non => true
  | .int _, .int _ => true | .bl _, .bl _ => true | .str _, .str _ => true
  | .int _, .str _ => true | .str _, .int _ => true | .bl _, .str _ => true | .str _, .bl _ => true
  | _, _ => false
def eqD (x y : D) : Option Bool := if scalD x y then some (deq x y) else if shp 60 x && shp 60 y then some (deq x y) else none
def oEq (x y : D) : Option D := (eqD x y).bind fun b => some (.bl b)
def oNe (x y : D) : Option D := (eqD x y).bind fun b => some (.bl (!b))
def sgnD (s : Str) : Option Nat := match s.cps.toList with
  | [c] => some c
  | _ => none
def isNonD : D → Bool
  | .non => true
  | _ => false
/-- x in y: a sign in a text; flat data in a list or tuple; any in a list; a key -/
def inD (x y : D) : Option Bool :=
  match y with
  | .str t => match x with
    | .str s => (sgnD s).map fun c => decide (c ∈ t.cps.toList)
    | _ => none
  | .lst l => if flatD x && l.all flatD then some (l.any fun y => deq y x) else if shp 60 x && l.all (shp 60) then some (l.any fun y => deq y x) else none
  | .tup l => if flatD x && l.all flatD then some (l.any fun y => deq y x) else none
  | .dct ks vs => match x with
    | .str s => some (lookD ks vs s).isSome
    | _ => none
  | _ => none
def oIn (x y : D) : Option D := (inD x y).bind fun b => some (.bl b)
def oNotIn (x y : D) : Option D := (inD x y).bind fun b => some (.bl (!b))
def oIsN (x : D) : Option D := some (.bl (isNonD x))
def oIsNotN (x : D) : Option D := some (.bl (!isNonD x))
def oIx : D → D → Option D
  | .lst l, .int i => match atD l i with | some v => some v | none => none
  | .tup l, .int i => match atD l i with | some v => some v | none => none
  | .scr l, .int i => match atD l i with | some v => some (.int v) | none => none
  | .str s, .int i => if s.length ≤ lineD then (match atD s.cps.toList i with | some c => some (.str ⟨#[c]⟩) | none => none) else none
  | .dct ks vs, .str s => match lookD ks vs s with | some v => some v | none => none
  | _, _ => none
def oSl (lo hi : Option Int) : D → Option D
  | .lst l => some (.lst (cutD l lo hi))
  | .tup l => some (.tup (cutD l lo hi))
  | .str s => if s.length ≤ lineD then some (.str ⟨(cutD s.cps.toList lo hi).toArray⟩) else none
  | _ => none
def oFld (f : Str) : D → Option D
  | .obj _ ks vs => match lookD ks vs f with | some v => some v | none => none
  | _ => none
def oRev : D → Option D
  | .lst l => some (.lst l.reverse)
  | _ => none
def oNeg : D → Option D
  | .int i => some (.int (-i))
  | _ => none
def oLen : D → Option D
  | .lst l => some (.int l.length)
  | .tup l => some (.int l.length)
  | .scr l => some (.int l.length)
  | .str s => if s.length ≤ lineD then some (.int s.length) else none
  | _ => none
def oInt : D → Option D
  | .int i => some (.int i)
  | .bl b => some (.int (if b then 1 else 0))
  | _ => none
def oAbs : D → Option D
  | .int i => some (.int (if i < 0 then -i else i))
  | _ => none
def intsD : List D → Option (List Int)
  | [] => some []
  | .int i :: l => (intsD l).map (i :: ·)
  | _ :: _ => none
def blsD : List D → Option (List Bool)
  | [] => some []
  | .bl i :: l => (blsD l).map (i :: ·)
  | _ :: _ => none
def strsD : List D → Option (List Str)
  | [] => some []
  | .str i :: l => (strsD l).map (i :: ·)
  | _ :: _ => none
def oSum : D → Option D
  | .lst l => match intsD l with | some ns => some (.int ns.sum) | none => none
  | .scr ns => some (.int ns.sum)
  | _ => none
def oAll : D → Option D
  | .lst l => match blsD l with | some bs => some (.bl (bs.all id)) | none => none
  | _ => none
def oAny : D → Option D
  | .lst l => match blsD l with | some bs => some (.bl (bs.any id)) | none => none
  | _ => none
/-- isinstance(x, T), T a built-in class of these -/
def oIsi (t : String) : D → Option D
  | .bl _ => if t = "bool" ∨ t = "int" then some (.bl true) else if t = "str" ∨ t = "tuple" ∨ t = "list" then some (.bl false) else none
  | .int _ => if t = "int" then some (.bl true) else if t = "bool" ∨ t = "str" ∨ t = "tuple" ∨ t = "list" then some (.bl false) else none
  | .str _ => if t = "str" then some (.bl true) else if t = "bool" ∨ t = "int" ∨ t = "tuple" ∨ t = "list" then some (.bl false) else none
  | .tup _ => if t = "tuple" then some (.bl true) else if t = "bool" ∨ t = "int" ∨ t = "str" ∨ t = "list" then some (.bl false) else none
  | .lst _ => if t = "list" then some (.bl true) else if t = "bool" ∨ t = "int" ∨ t = "str" ∨ t = "tuple" then some (.bl false) else none
  | .non => if t = "bool" ∨ t = "int" ∨ t = "str" ∨ t = "tuple" ∨ t = "list" then some (.bl false) else none
  | _ => none
def oMax : D → D → Option D
  | .int i, .int j => some (.int (if j > i then j else i))
  | _, _ => none
def oMin : D → D → Option D
  | .int i, .int j => some (.int (if j < i then j else i))
  | _, _ => none
def oList : D → Option D
  | .lst l => some (.lst l)
  | .tup l => some (.lst l)
  | _ => none
def oTuple : D → Option D
  | .lst l => some (.tup l)
  | .tup l => some (.tup l)
  | _ => none
/-- truth -/
def truD : D → Option Bool
  | .non => some false
  | .bl b => some b
  | .int i => some (i != 0)
  | .str s => if s.length ≤ lineD then some ((s.length : Int) != 0) else none
  | .lst l => some (!l.isEmpty)
  | .tup l => some (!l.isEmpty)
  | .dct ks _ => some (!ks.isEmpty)
  | _ => none
/-- what a for or a comprehension walks -/
def iterD : D → Option (List D)
  | .lst l => some l
  | .tup l => some l
  | .str s => some (s.cps.toList.map fun c => .str ⟨#[c]⟩)
  | _ => none
def rngOk (n : Int) : Prop := -(2 ^ 62) ≤ n ∧ n < 2 ^ 62
instance (n : Int) : Decidable (rngOk n) := by unfold rngOk; infer_instance
theorem rngOk_of {n : Int} (h : 0 ≤ n) (k : n < 1000000000) : rngOk n := by unfold rngOk; omega
def rangeD (n : Int) : List D := (List.range n.toNat).map fun i => .int (Int.ofNat i)
def range2D (a b : Int) : List D := (List.range (b - a).toNat).map fun i => .int (a + Int.ofNat i)
def eVar (i : Nat) : DE := fun ρ => match ρ[i]? with
  | some (some (.val d)) => .ok d
  | _ => .no
/-- a name that is only looked at (its container may be the def's own) -/
def eLook (i : Nat) : DE := fun ρ => match ρ[i]? with
  | some (some (.val d)) => .ok d
  | some (some (.own d)) => .ok d
  | _ => .no
/-- a field of the object under construction; a container that it holds alone stands in its own (unnamed) slot -/
def eSlfFld (i : Nat) (f : Str) : DE := fun ρ => match ρ[i]? with
  | some (some (.slf d)) => match oFld f d with
    | some (.gst j) => match ρ[j]? with
      | some (some (.gho d')) => .ok d'
      | _ => .no
    | r => R.of r
  | _ => .no
def eC (d : D) : DE := fun _ => .ok d
def e1 (f : D → Option D) (a : DE) : DE := fun ρ => (a ρ).bind fun x => R.of (f x)
def e2 (f : D → D → Option D) (a b : DE) : DE := fun ρ => (a ρ).bind fun x => (b ρ).bind fun y => R.of (f x y)
abbrev DO := DEnv → R (Option Int)
def xNone : DO := fun _ => .ok none
def xSome (e : DE) : DO := fun ρ => (e ρ).bind fun x => match x with | .int i => .ok (some i) | _ => .no
def eSl (a : DE) (lo hi : DO) : DE := fun ρ => (a ρ).bind fun x => (lo ρ).bind fun l => (hi ρ).bind fun h => R.of (oSl l h x)
def eIf (c : DT) (a b : DE) : DE := fun ρ => (c ρ).bind fun k => if k then a ρ else b ρ
def eAnd (a b : DE) : DE := fun ρ => (a ρ).bind fun x => match x with | .bl true => b ρ | .bl false => .ok (.bl false) | _ => .no
def eOr (a b : DE) : DE := fun ρ => (a ρ).bind fun x => match x with | .bl false => b ρ | .bl true => .ok (.bl true) | _ => .no
def eNot (a : DE) : DE := fun ρ => (a ρ).bind fun x => match x with | .bl k => .ok (.bl (!k)) | _ => .no
def aNil : DA := fun _ => .ok []
def aCons (a : DE) (as : DA) : DA := fun ρ => (a ρ).bind fun x => (as ρ).bind fun xs => .ok (x :: xs)
def eCall (f : List D → R D) (as : DA) : DE := fun ρ => (as ρ).bind f
/-- o.m(..), o an object of a class of cs -/
def eMeth (cs : List String) (f : List D → R D) (o : DE) (as : DA) : DE := fun ρ => (o ρ).bind fun x => match x with
  | .obj c ks vs => if c ∈ cs then (as ρ).bind fun xs => f (.obj c ks vs :: xs) else .no
  | _ => .no
def eTup (as : DA) : DE := fun ρ => (as ρ).bind fun xs => if xs.length ≤ lineD then .ok (.tup xs) else .no
def eLst (as : DA) : DE := fun ρ => (as ρ).bind fun xs => if xs.length ≤ lineD then .ok (.lst xs) else .no
def iOf (a : DE) : DI := fun ρ => (a ρ).bind fun x => R.of (iterD x)
def rngR (x : D) : R (List D) := match x with | .int n => if rngOk n then .ok (rangeD n) else .no | _ => .no
theorem rngR_ok {n : Int} (h : rngOk n) : rngR (.int n) = .ok (rangeD n) := if_pos h
def iRange (a : DE) : DI := fun ρ => (a ρ).bind rngR
def iRange2 (a b : DE) : DI := fun ρ => (a ρ).bind fun x => (b ρ).bind fun y => match x, y with
  | .int i, .int j => if rngOk i ∧ rngOk j then .ok (range2D i j) else .no
  | _, _ => .no
/-- a comprehension's turns; an exception within is not served -/
def compL (g : DG) (c : DT) (e : DE) (ρ : DEnv) : List D → R (List D)
  | [] => .ok []
  | x :: xs => match g x ρ with
    | .ok ρ' => match c ρ' with
      | .ok true => match e ρ' with
        | .ok y => match compL g c e ρ xs with
          | .ok ys => .ok (y :: ys)
          | _ => .no
        | _ => .no
      | .ok false => compL g c e ρ xs
      | _ => .no
    | _ => .no
/-- the block's own names, forgotten -/
def okW (vs : List Nat) (ρ : DEnv) : Bool := vs.all fun v => match ρ[v]? with
  | some none => true
  | some (some (.val _)) => true
  | _ => false
def wipD (vs : List Nat) (ρ : DEnv) : DEnv := vs.foldr (fun v r => r.set v none) ρ
def eComp (it : DI) (vs : List Nat) (g : DG) (c : DT) (e : DE) : DE := fun ρ => (it ρ).bind fun l => if l.length ≤ lineD ∧ okW vs ρ = true then (compL g c e (wipD vs ρ) l).bind fun ys => .ok (.lst ys) else .no
/-- the inner turns of [e for x in a for y in b] -/
def comp2L (g : DG) (it1 : DI) (vs1 : List Nat) (g1 : DG) (c1 : DT) (e : DE) (ρ : DEnv) : List D → R (List D)
  | [] => .ok []
  | x :: xs => match g x ρ with
    | .ok ρ' => match it1 ρ' with
      | .ok l1 => if okW vs1 ρ' = true then (match compL g1 c1 e (wipD vs1 ρ') l1 with
        | .ok ys => match comp2L g it1 vs1 g1 c1 e ρ xs with
          | .ok zs => .ok (ys ++ zs)
          | _ => .no
        | _ => .no) else .no
      | _ => .no
    | _ => .no
def eComp2 (it : DI) (vs : List Nat) (g : DG) (it1 : DI) (vs1 : List Nat) (g1 : DG) (c1 : DT) (e : DE) : DE := fun ρ => (it ρ).bind fun l => if okW vs ρ = true then (comp2L g it1 vs1 g1 c1 e (wipD vs ρ) l).bind fun ys => if ys.length ≤ lineD then .ok (.lst ys) else .no else .no
def tYesD : DT := fun _ => .ok true
def tVal (a : DE) : DT := fun ρ => (a ρ).bind fun x => match x with | .bl k => .ok k | _ => .no
def tTru (a : DE) : DT := fun ρ => (a ρ).bind fun x => R.of (truD x)
def tAndD (a b : DT) : DT := fun ρ => (a ρ).bind fun k => if k then b ρ else .ok false
def tOrD (a b : DT) : DT := fun ρ => (a ρ).bind fun k => if k then .ok true else b ρ
def tNotD (a : DT) : DT := fun ρ => (a ρ).bind fun k => .ok (!k)
/-- the name gets a value -/
def setV (i : Nat) (d : D) (ρ : DEnv) : R DEnv := match ρ[i]? with
  | some (some (.slf _)) => .no
  | some (some (.gho _)) => .no
  | some _ => .ok (ρ.set i (some (.val d)))
  | none => .no
def setO (i : Nat) (d : D) (ρ : DEnv) : R DEnv := match ρ[i]? with
  | some (some (.slf _)) => .no
  | some (some (.gho _)) => .no
  | some _ => .ok (ρ.set i (some (.own d)))
  | none => .no
def gVar (i : Nat) : DG := setV i
def gVars : List Nat → List D → DEnv → R DEnv
  | [], [], ρ => .ok ρ
  | i :: is, d :: ds, ρ => (setV i d ρ).bind fun ρ' => gVars is ds ρ'
  | _, _, _ => .no
def gTupD (is : List Nat) : DG := fun d ρ => match d with | .tup l => gVars is l ρ | _ => .no
/-- an exception out of an expression leaves the statement -/
def R.st {α : Type} (r : R α) (ρ : DEnv) (f : α → R Out) : R Out := match r with
  | .ok a => f a
  | .ex e => .ok (.xx e ρ)
  | .no => .no
@[simp] theorem R.st_ok {α : Type} (a : α) (ρ : DEnv) (f : α → R Out) : (R.ok a).st ρ f = f a := rfl
@[simp] theorem R.st_ex {α : Type} (e : Ex) (ρ : DEnv) (f : α → R Out) : (R.ex e : R α).st ρ f = .ok (.xx e ρ) := rfl
@[simp] theorem R.st_no {α : Type} (ρ : DEnv) (f : α → R Out) : (R.no : R α).st ρ f = .no := rfl
def sNext : DS := fun ρ => .ok (.nx ρ)
def sBrk : DS := fun ρ => .ok (.bk ρ)
def sCnt : DS := fun ρ => .ok (.ct ρ)
def sNever : DS := fun _ => .no
def sSeq (a b : DS) : DS := fun ρ => match a ρ with
  | .ok (.nx ρ') => b ρ'
  | r => r
def sSet (i : Nat) (e : DE) : DS := fun ρ => (e ρ).st ρ fun d => (setV i d ρ).bind fun ρ' => .ok (.nx ρ')
/-- the name gets a new container of its own -/
def sOwn (i : Nat) (e : DE) : DS := fun ρ => (e ρ).st ρ fun d => (setO i d ρ).bind fun ρ' => .ok (.nx ρ')
/-- the container is given out: from here on it stands -/
def frzD (i : Nat) (ρ : DEnv) : DEnv := match ρ[i]? with
  | some (some (.own d)) => ρ.set i (some (.val d))
  | _ => ρ
def sFrz (is : List Nat) (a : DS) : DS := fun ρ => a (is.foldl (fun r i => frzD i r) ρ)
/-- names that are dead are forgotten -/
def clr1 (i : Nat) (ρ : DEnv) : DEnv := match ρ[i]? with
  | some (some (.val _)) => ρ.set i none
  | some (some (.own _)) => ρ.set i none
  | _ => ρ
def clrD (is : List Nat) (ρ : DEnv) : DEnv := is.foldl (fun r i => clr1 i r) ρ
def sClr (is : List Nat) : DS := fun ρ => .ok (.nx (clrD is ρ))
def sAsg (e : DE) (g : DG) : DS := fun ρ => (e ρ).st ρ fun d => (g d ρ).bind fun ρ' => .ok (.nx ρ')
def sDrop (e : DE) : DS := fun ρ => (e ρ).st ρ fun _ => .ok (.nx ρ)
def sRet (e : DE) : DS := fun ρ => (e ρ).st ρ fun d => .ok (.rt d ρ)
def sRetN : DS := fun ρ => .ok (.rt .non ρ)
def sIf (c : DT) (a b : DS) : DS := fun ρ => (c ρ).st ρ fun k => if k then a ρ else b ρ
def forL (g : DG) (cl : List Nat) (b : DS) : List D → DEnv → R Out
  | [], ρ => .ok (.nx ρ)
  | x :: xs, ρ => match (g x ρ).bind b with
    | .ok (.nx ρ') => forL g cl b xs (clrD cl ρ')
    | .ok (.ct ρ') => forL g cl b xs (clrD cl ρ')
    | .ok (.bk ρ') => .ok (.nx ρ')
    | r => r
def sFor (it : DI) (g : DG) (cl : List Nat) (b : DS) : DS := fun ρ => (it ρ).st ρ fun l => forL g cl b l (clrD cl ρ)
def whileL (c : DT) (cl : List Nat) (b : DS) : Nat → DEnv → R Out
  | 0, _ => .no
  | n + 1, ρ => (c ρ).st ρ fun k => if k then (match b ρ with
    | .ok (.nx ρ') => whileL c cl b n (clrD cl ρ')
    | .ok (.ct ρ') => whileL c cl b n (clrD cl ρ')
    | .ok (.bk ρ') => .ok (.nx ρ')
    | r => r) else .ok (.nx ρ)
def sWhile (n : Nat) (c : DT) (cl : List Nat) (b : DS) : DS := fun ρ => whileL c cl b n (clrD cl ρ)
/-- x.append(e), x the def's own list -/
def sApp (i : Nat) (e : DE) : DS := fun ρ => match ρ[i]? with
  | some (some (.own (.lst l))) => (e ρ).st ρ fun y => if l.length < lineD then .ok (.nx (ρ.set i (some (.own (.lst (l ++ [y])))))) else .no
  | _ => .no
def sClear (i : Nat) : DS := fun ρ => match ρ[i]? with
  | some (some (.own (.lst _))) => .ok (.nx (ρ.set i (some (.own (.lst [])))))
  | _ => .no
/-- x[k] = e, x the def's own list or dict -/
def putAt : D → D → D → Option D
  | .lst l, .int i, v => if 0 ≤ i then (if i < l.length then some (.lst (l.set i.toNat v)) else none) else if -(l.length : Int) ≤ i then some (.lst (l.set (i + l.length).toNat v)) else none
  | .dct ks vs, .str s, v => if ks.length < lineD then some (.dct (dPutK s ks) (dPutV s v ks vs)) else none
  | _, _, _ => none
def sPutD (i : Nat) (k e : DE) : DS := fun ρ => (e ρ).st ρ fun v => match ρ[i]? with
  | some (some (.own (.dct ks vs))) => (k ρ).st ρ fun x => match x with
    | .str s => if ks.length < lineD then .ok (.nx (ρ.set i (some (.own (.dct (dPutK s ks) (dPutV s v ks vs)))))) else .no
    | _ => .no
  | _ => .no
/-- x[k] = e, x the def's own list -/
def sPutL (i : Nat) (k e : DE) : DS := fun ρ => (e ρ).st ρ fun v => match ρ[i]? with
  | some (some (.own (.lst l))) => (k ρ).st ρ fun x => match x with
    | .int j => if 0 ≤ j ∧ j < l.length then .ok (.nx (ρ.set i (some (.own (.lst (l.set j.toNat v)))))) else .no
    | _ => .no
  | _ => .no
/-- x[k] += e, x the def's own dict, ints -/
def sPutAdd (i : Nat) (k e : DE) : DS := fun ρ => match ρ[i]? with
  | some (some (.own (.dct ks vs))) => (k ρ).st ρ fun x => match x with
    | .str s => match lookD ks vs s with
      | some (.int a) => (e ρ).st ρ fun v => match v with
        | .int b => if ks.length < lineD then .ok (.nx (ρ.set i (some (.own (.dct (dPutK s ks) (dPutV s (.int (a + b)) ks vs)))))) else .no
        | _ => .no
      | _ => .no
    | _ => .no
  | _ => .no
/-- x = y.pop(), y the def's own list -/
def sPop (i j : Nat) : DS := fun ρ => match ρ[j]? with
  | some (some (.own (.lst l))) => match l.getLast? with
    | some x => (setV i x (ρ.set j (some (.own (.lst l.dropLast))))).bind fun ρ' => .ok (.nx ρ')
    | none => .no
  | _ => .no
def sAug (i : Nat) (f : D → D → Option D) (e : DE) : DS := fun ρ => match ρ[i]? with
  | some (some (.val x)) => (e ρ).st ρ fun y => match f x y with
    | some z => (setV i z ρ).bind fun ρ' => .ok (.nx ρ')
    | none => .no
  | _ => .no
/-- self.f = e -/
def putF (f : Str) (v : D) : D → Option D
  | .obj c ks vs => if ks.length < 999 ∧ f ∈ fldOf c then some (.obj c (putDk f ks) (putDv f v ks vs)) else none
  | _ => none
def sFld (i : Nat) (f : Str) (e : DE) : DS := fun ρ => (e ρ).st ρ fun v => match ρ[i]? with
  | some (some (.slf d)) => match putF f v d with
    | some d' => .ok (.nx (ρ.set i (some (.slf d'))))
    | _ => .no
  | _ => .no
/-- f(self, ..): the object under construction is handed on -/
def sInit (i : Nat) (f : D → List D → R (D × D)) (as : DA) : DS := fun ρ => (as ρ).st ρ fun xs => match ρ[i]? with
  | some (some (.slf d)) => (f d xs).st ρ fun p => .ok (.nx (ρ.set i (some (.slf p.2))))
  | _ => .no
mutual
def noL : D → Bool
  | .lst _ => false
  | .dct _ _ => false
  | .scr _ => false
  | .gst _ => false
  | .tup l => noLs l
  | .obj _ _ l => noLs l
  | _ => true
def noLs : List D → Bool
  | [] => true
  | d :: l => noL d && noLs l
end
/-- the names is: those of them that are the def's own are lists -/
def lendOk (is : List Nat) (ρ : DEnv) : Bool := is.all fun i => match ρ[i]? with
  | some (some (.own (.lst _))) => true
  | some (some (.own _)) => false
  | _ => true
def eLend (is : List Nat) (e : DE) : DE := fun ρ => if lendOk is ρ then (match e (is.foldl (fun r i => frzD i r) ρ) with
  | .ok d => if noL d then .ok d else .no
  | .ex x => if noLs x.vs then .ex x else .no
  | .no => .no) else .no
def envD (n : Nat) (ds : List D) : DEnv := ds.map (fun d => some (.val d)) ++ List.replicate (n - ds.length) none
/-- a def's meaning: n names, the parameters first -/
def defD (n p : Nat) (b : DS) (ds : List D) : R D := if ds.length = p then (match b (envD n ds) with
  | .ok (.rt d _) => .ok d
  | .ok (.nx _) => .ok .non
  | .ok (.xx e _) => .ex e
  | _ => .no) else .no
/-- no field of the object waits for a container of its own -/
def noGst : List D → Bool
  | [] => true
  | .gst _ :: _ => false
  | _ :: l => noGst l
/-- an __init__'s meaning, the object under construction whole at its end -/
def slfP (ρ : DEnv) (d : D) : R (D × D) := match ρ with
  | some (.slf (.obj c ks l)) :: _ => if noGst l then .ok (d, .obj c ks l) else .no
  | _ => .no
def initP (n p : Nat) (b : DS) (s : D) (ds : List D) : R (D × D) := if ds.length + 1 = p then (match b (some (.slf s) :: envD (n - 1) ds) with
  | .ok (.rt d ρ) => slfP ρ d
  | .ok (.nx ρ) => slfP ρ .non
  | .ok (.xx e _) => .ex e
  | _ => .no) else .no
/-- C(..) -/
def mkD (c : String) (init : D → List D → R (D × D)) (ds : List D) : R D := (init (.obj c [] []) ds).bind fun p => match p.1 with
  | .non => .ok p.2
  | _ => .no
end Tw

set_option maxHeartbeats 2000000
namespace Tw
open PySem PySem.Spec L2
open PyProof.Rows hiding St
def KTup (K : PySem.W.Frag) (a : Addr) (xs : List V) : Prop := ∃ (o : Obj) (its : Array Value) (n : Nat), K.lookup a = some o ∧ o.cls = .type "tuple" ∧ o.data = .seq its n ∧ its.size ≤ sizeLine ∧ Vals xs its.toList
def KLst (K : PySem.W.Frag) (a : Addr) (xs : List V) : Prop := ∃ (o : Obj) (its : Array Value) (n : Nat), K.lookup a = some o ∧ o.cls = .type "list" ∧ o.dict = none ∧ o.data = .seq its n ∧ its.size ≤ sizeLine ∧ Vals xs its.toList
structure Gc where
  K : PySem.W.Frag
  cm : String → Addr
  has : String → Prop
  cls : ∀ c, has c → Cls K (cm c)
  noat : ∀ c f, has c → f ∈ fldOf c → NoAttr K (cm c) f
def OkO (G : Gc) (c : String) (ks : List Str) : Prop := G.has c ∧ ∀ f ∈ ks, f ∈ fldOf c
def sKeys : List Str → List V → List (Key × V)
  | k :: ks, v :: vs => (Sum.inr k, v) :: sKeys ks vs
  | _, _ => []
def fKeys : List Str → List V → List (Str × V)
  | k :: ks, v :: vs => (k, v) :: fKeys ks vs
  | _, _ => []
mutual
/-- the value v stands for the data d; what it leans on is not in Z -/
def Rep (G : Gc) (Z : Addr → Prop) (H : Hp) : D → V → Prop
  | .non, v => v = .non
  | .bl b, v => v = .bl b
  | .int i, v => v = .int i
  | .str s, v => v = .str s
  | .cls n, v => v = .ref (G.cm n)
  | .gst _, _ => False
  | .scr ns, v => ∃ a, v = .ref a ∧ ((¬ Z a ∧ Rd H a (.lst (ns.map V.int))) ∨ KLst G.K a (ns.map V.int))
  | .tup l, v => ∃ a vs, v = .ref a ∧ ((¬ Z a ∧ H a = some (.tup vs)) ∨ KTup G.K a vs) ∧ RepL G Z H l vs
  | .lst l, v => ∃ a vs, v = .ref a ∧ ¬ Z a ∧ H a = some (.lst vs) ∧ RepL G Z H l vs
  | .dct ks l, v => ∃ a vs, v = .ref a ∧ ¬ Z a ∧ H a = some (.dK (sKeys ks vs)) ∧ ks.length = vs.length ∧ RepL G Z H l vs
  | .obj c ks l, v => ∃ a dx vs, v = .ref a ∧ ¬ Z a ∧ H a = some (.ins (G.cm c) dx (fKeys ks vs)) ∧ (ks.length = vs.length ∧ OkO G c ks) ∧ RepL G Z H l vs
def RepL (G : Gc) (Z : Addr → Prop) (H : Hp) : List D → List V → Prop
  | [], vs => vs = []
  | d :: ds, vs => ∃ v r, vs = v :: r ∧ Rep G Z H d v ∧ RepL G Z H ds r
end
/-- H' has all of H that is not in Z -/
def Sub (Z : Addr → Prop) (H H' : Hp) : Prop := ∀ a o, ¬ Z a → H a = some o → H' a = some o
theorem Same.sub {Z : Addr → Prop} {H H' : Hp} (s : Same H H') : Sub Z H H' := fun a o _ h => s a o h
mutual
theorem Rep.mono {G : Gc} {Z Z' : Addr → Prop} {H H' : Hp} (s : Sub Z H H') (z : ∀ a, Z' a → Z a ∨ H a = none) : ∀ {d : D} {v : V}, Rep G Z H d v → Rep G Z' H' d v
  | .non, v, h => h
  | .bl b, v, h => h
  | .int i, v, h => h
  | .str x, v, h => h
  | .cls n, v, h => h
  | .gst j, v, h => h.elim
  | .scr ns, v, h => by
    obtain ⟨a, e, h⟩ := h
    rcases h with ⟨n, h | ⟨o, h⟩⟩ | h
    · exact ⟨a, e, .inl ⟨fun q => (z a q).elim n (fun q => by rw [q] at h; cases h), .inl (s a _ n h)⟩⟩
    · exact ⟨a, e, .inl ⟨fun q => (z a q).elim n (fun q => by rw [q] at h; cases h), .inr ⟨o, s a _ n h⟩⟩⟩
    · exact ⟨a, e, .inr h⟩
  | .tup l, v, h => by
    obtain ⟨a, vs, e, t, r⟩ := h
    refine ⟨a, vs, e, ?_, RepL.mono s z r⟩
    rcases t with ⟨n, t⟩ | t
    · exact .inl ⟨fun q => (z a q).elim n (fun q => by rw [q] at t; cases t), s a _ n t⟩
    · exact .inr t
  | .lst l, v, h => by
    obtain ⟨a, vs, e, n, t, r⟩ := h
    exact ⟨a, vs, e, fun q => (z a q).elim n (fun q => by rw [q] at t; cases t), s a _ n t, RepL.mono s z r⟩
  | .dct ks l, v, h => by
    obtain ⟨a, vs, e, n, t, k, r⟩ := h
    exact ⟨a, vs, e, fun q => (z a q).elim n (fun q => by rw [q] at t; cases t), s a _ n t, k, RepL.mono s z r⟩
  | .obj c ks l, v, h => by
    obtain ⟨a, dx, vs, e, n, t, k, r⟩ := h
    exact ⟨a, dx, vs, e, fun q => (z a q).elim n (fun q => by rw [q] at t; cases t), s a _ n t, k, RepL.mono s z r⟩
theorem RepL.mono {G : Gc} {Z Z' : Addr → Prop} {H H' : Hp} (s : Sub Z H H') (z : ∀ a, Z' a → Z a ∨ H a = none) : ∀ {ds : List D} {vs : List V}, RepL G Z H ds vs → RepL G Z' H' ds vs
  | [], vs, h => h
  | d :: ds, vs, h => by
    obtain ⟨v, r, e, h1, h2⟩ := h
    exact ⟨v, r, e, Rep.mono s z h1, RepL.mono s z h2⟩
end
section
variable {G : Gc} {Z Z' : Addr → Prop} {H H' : Hp}
theorem Rep.same (s : Same H H') {d : D} {v : V} (h : Rep G Z H d v) : Rep G Z H' d v := Rep.mono (Same.sub s) (fun _ q => .inl q) h
theorem RepL.same (s : Same H H') {d : List D} {v : List V} (h : RepL G Z H d v) : RepL G Z H' d v := RepL.mono (Same.sub s) (fun _ q => .inl q) h
theorem Rep.weak (z : ∀ a, Z' a → Z a) {d : D} {v : V} (h : Rep G Z H d v) : Rep G Z' H d v := Rep.mono (fun _ _ _ h => h) (fun a q => .inl (z a q)) h
theorem RepL.weak (z : ∀ a, Z' a → Z a) {d : List D} {v : List V} (h : RepL G Z H d v) : RepL G Z' H d v := RepL.mono (fun _ _ _ h => h) (fun a q => .inl (z a q)) h
theorem RepL.length : ∀ {ds : List D} {vs : List V}, RepL G Z H ds vs → ds.length = vs.length
  | [], vs, h => by rw [show vs = [] from h]; rfl
  | d :: ds, vs, h => by
    obtain ⟨v, r, e, _, h2⟩ := h
    rw [e, List.length_cons, List.length_cons, RepL.length h2]
theorem RepL.get : ∀ {ds : List D} {vs : List V} {i : Nat} {d : D}, RepL G Z H ds vs → ds[i]? = some d → ∃ v, vs[i]? = some v ∧ Rep G Z H d v
  | [], vs, i, d, h, e => by simp at e
  | d' :: ds, vs, 0, d, h, e => by
    obtain ⟨v, r, rfl, h1, _⟩ := h
    simp at e
    subst e
    exact ⟨v, rfl, h1⟩
  | d' :: ds, vs, i + 1, d, h, e => by
    obtain ⟨v, r, rfl, _, h2⟩ := h
    obtain ⟨u, e1, e2⟩ := RepL.get (i := i) h2 (by simpa using e)
    exact ⟨u, by simpa using e1, e2⟩
theorem RepL.append : ∀ {ds es : List D} {vs us : List V}, RepL G Z H ds vs → RepL G Z H es us → RepL G Z H (ds ++ es) (vs ++ us)
  | [], es, vs, us, h, k => by rw [show vs = [] from h]; exact k
  | d :: ds, es, vs, us, h, k => by
    obtain ⟨v, r, rfl, h1, h2⟩ := h
    exact ⟨v, r ++ us, rfl, h1, RepL.append h2 k⟩
theorem RepL.take : ∀ {ds : List D} {vs : List V} (n : Nat), RepL G Z H ds vs → RepL G Z H (ds.take n) (vs.take n)
  | ds, vs, 0, _ => by simp [RepL]
  | [], vs, n + 1, h => by rw [show vs = [] from h]; simp [RepL]
  | d :: ds, vs, n + 1, h => by
    obtain ⟨v, r, rfl, h1, h2⟩ := h
    exact ⟨v, r.take n, rfl, h1, RepL.take n h2⟩
theorem RepL.drop : ∀ {ds : List D} {vs : List V} (n : Nat), RepL G Z H ds vs → RepL G Z H (ds.drop n) (vs.drop n)
  | ds, vs, 0, h => h
  | [], vs, n + 1, h => by rw [show vs = [] from h]; simp [RepL]
  | d :: ds, vs, n + 1, h => by
    obtain ⟨v, r, rfl, h1, h2⟩ := h
    exact RepL.drop n h2
theorem RepL.set : ∀ {ds : List D} {vs : List V} {d : D} {v : V} (n : Nat), RepL G Z H ds vs → Rep G Z H d v → RepL G Z H (ds.set n d) (vs.set n v)
  | [], vs, _, _, n, h, _ => by rw [show vs = [] from h]; simp [RepL]
  | d :: ds, vs, e, w, 0, h, k => by
    obtain ⟨v, r, rfl, h1, h2⟩ := h
    exact ⟨w, r, rfl, k, h2⟩
  | d :: ds, vs, e, w, n + 1, h, k => by
    obtain ⟨v, r, rfl, h1, h2⟩ := h
    exact ⟨v, r.set n w, rfl, h1, RepL.set n h2 k⟩
theorem RepL.one {d : D} {v : V} (h : Rep G Z H d v) : RepL G Z H [d] [v] := ⟨v, [], rfl, h, rfl⟩
theorem RepL.cons {d : D} {v : V} {ds : List D} {vs : List V} (h : Rep G Z H d v) (t : RepL G Z H ds vs) : RepL G Z H (d :: ds) (v :: vs) := ⟨v, vs, rfl, h, t⟩
theorem RepL.nil : RepL G Z H [] [] := rfl
end
/-- a container, its items; it may be anybody's -/
def RepW (G : Gc) (Z : Addr → Prop) (H : Hp) (d : D) (v : V) : Prop := match d with
  | .lst l => ∃ a vs, v = .ref a ∧ H a = some (.lst vs) ∧ RepL G Z H l vs
  | .dct ks l => ∃ a vs, v = .ref a ∧ H a = some (.dK (sKeys ks vs)) ∧ ks.length = vs.length ∧ RepL G Z H l vs
  | .obj c ks l => ∃ a dx vs, v = .ref a ∧ H a = some (.ins (G.cm c) dx (fKeys ks vs)) ∧ (ks.length = vs.length ∧ OkO G c ks) ∧ RepL G Z H l vs
  | d => Rep G Z H d v
theorem Rep.w {G : Gc} {Z : Addr → Prop} {H : Hp} {d : D} {v : V} (h : Rep G Z H d v) : RepW G Z H d v := by
  cases d with
  | lst l => obtain ⟨a, vs, e, _, t, r⟩ := h; exact ⟨a, vs, e, t, r⟩
  | dct ks l => obtain ⟨a, vs, e, _, t, k, r⟩ := h; exact ⟨a, vs, e, t, k, r⟩
  | obj c ks l => obtain ⟨a, dx, vs, e, _, t, k, r⟩ := h; exact ⟨a, dx, vs, e, t, k, r⟩
  | _ => exact h
theorem RepW.same {G : Gc} {Z : Addr → Prop} {H H' : Hp} (s : Same H H') {d : D} {v : V} (h : RepW G Z H d v) : RepW G Z H' d v := by
  cases d with
  | lst l => obtain ⟨a, vs, e, t, r⟩ := h; exact ⟨a, vs, e, s _ _ t, r.same s⟩
  | dct ks l => obtain ⟨a, vs, e, t, k, r⟩ := h; exact ⟨a, vs, e, s _ _ t, k, r.same s⟩
  | obj c ks l => obtain ⟨a, dx, vs, e, t, k, r⟩ := h; exact ⟨a, dx, vs, e, s _ _ t, k, r.same s⟩
  | _ => exact Rep.same s h
/-- an exception's class and its own dict -/
def ExRep (G : Gc) (Z : Addr → Prop) (H : Hp) (e : Ex) (c : Value) (od : Option Addr) : Prop :=
  c = .ref (G.cm e.cls) ∧ ∃ d vs, od = some d ∧ H d = some (.xd (fKeys e.ks vs)) ∧ e.ks.length = vs.length ∧ RepL G Z H e.vs vs
def isOwn (ρ : DEnv) (i : Nat) : Prop := ∃ d, ρ[i]? = some (some (.own d)) ∨ ρ[i]? = some (some (.slf d)) ∨ ρ[i]? = some (some (.gho d))
def Zo (Ze O : Addr → Prop) (a : Addr) : Prop := Ze a ∨ O a
/-- a field of the object under construction -/
def RepG (G : Gc) (Z : Addr → Prop) (α : Nat → Addr) (ρ : DEnv) (H : Hp) (d : D) (v : V) : Prop := match d with
  | .gst j => v = .ref (α j) ∧ ∃ d', ρ[j]? = some (some (.gho d'))
  | d => Rep G Z H d v
def RepGL (G : Gc) (Z : Addr → Prop) (α : Nat → Addr) (ρ : DEnv) (H : Hp) : List D → List V → Prop
  | [], vs => vs = []
  | d :: ds, vs => ∃ v r, vs = v :: r ∧ RepG G Z α ρ H d v ∧ RepGL G Z α ρ H ds r
/-- the context of a def's reading: Ze what may not be leaned on, sa the object under construction, E what is wanted of an exception -/
structure Cy where
  G : Gc
  Ze : Addr → Prop
  sa : Addr
  E : WX
  lv : Nat
  n : Nat
structure SRa (Y : Cy) (O : Addr → Prop) (α : Nat → Addr) (ρ : DEnv) (σ : St) (H : Hp) : Prop where
  len : σ.length = Y.n ∧ Y.n ≤ ρ.length
  val : ∀ (i : Nat) (d : D), ρ[i]? = some (some (Slot.val d)) → ∃ v, σ[i]? = some (some v) ∧ Rep Y.G (Zo Y.Ze O) H d v
  own : ∀ (i : Nat) (d : D), ρ[i]? = some (some (Slot.own d)) → σ[i]? = some (some (.ref (α i))) ∧ ¬ Y.Ze (α i) ∧ RepW Y.G (Zo Y.Ze O) H d (.ref (α i))
  slf : ∀ (i : Nat) (d : D), ρ[i]? = some (some (Slot.slf d)) → σ[i]? = some (some (.ref (α i))) ∧ α i = Y.sa ∧ ∃ c ks l dx vs, d = .obj c ks l ∧ H (α i) = some (.ins (Y.G.cm c) dx (fKeys ks vs)) ∧ (ks.length = vs.length ∧ OkO Y.G c ks) ∧ RepGL Y.G (Zo Y.Ze O) α ρ H l vs
  gho : ∀ (i : Nat) (d : D), ρ[i]? = some (some (Slot.gho d)) → RepW Y.G (Zo Y.Ze O) H d (.ref (α i)) ∧ Y.n ≤ i
  inj : ∀ (i j : Nat), isOwn ρ i → isOwn ρ j → α i = α j → i = j
  oeq : ∀ a, O a ↔ ∃ i, isOwn ρ i ∧ α i = a
  zt : ∀ a, Y.Ze a → H a ≠ none
  ot : ∀ a, O a → H a ≠ none
def SR (Y : Cy) (O : Addr → Prop) (ρ : DEnv) (σ : St) (H : Hp) : Prop := ∃ α, SRa Y O α ρ σ H
/-- what a step leaves: all but the def's own containers stand; own is what was own or is new -/
def Stp (O : Addr → Prop) (H : Hp) (O' : Addr → Prop) (H' : Hp) : Prop := (∀ a o, ¬ O a → H a = some o → H' a = some o) ∧ ∀ a, O' a → O a ∨ H a = none
theorem Stp.refl {O : Addr → Prop} {H : Hp} : Stp O H O H := ⟨fun _ _ _ h => h, fun _ h => .inl h⟩
theorem Stp.same {O : Addr → Prop} {H H' : Hp} (s : Same H H') : Stp O H O H' := ⟨fun a o _ h => s a o h, fun _ h => .inl h⟩
theorem Stp.trans {O O1 O2 : Addr → Prop} {H H1 H2 : Hp} (a : Stp O H O1 H1) (b : Stp O1 H1 O2 H2) : Stp O H O2 H2 := by
  refine ⟨fun c o n h => b.1 c o (fun q => ?_) (a.1 c o n h), fun c q => ?_⟩
  · rcases a.2 c q with k | k
    · exact n k
    · rw [k] at h; cases h
  · rcases b.2 c q with k | k
    · exact a.2 c k
    · by_cases hn : H c = none
      · exact .inr hn
      · obtain ⟨o, ho⟩ := Option.ne_none_iff_exists'.mp hn
        by_cases hO : O c
        · exact .inl hO
        · rw [a.1 c o hO ho] at k; cases k
section
variable {Y : Cy} {O : Addr → Prop} {ρ : DEnv} {σ : St} {H H' : Hp} {α : Nat → Addr}
theorem RepG.same (s : Same H H') {Z : Addr → Prop} {G : Gc} {d : D} {v : V} (h : RepG G Z α ρ H d v) : RepG G Z α ρ H' d v := by
  cases d with
  | gst j => exact h
  | _ => exact Rep.same s h
theorem RepGL.same (s : Same H H') {Z : Addr → Prop} {G : Gc} : ∀ {ds : List D} {vs : List V}, RepGL G Z α ρ H ds vs → RepGL G Z α ρ H' ds vs
  | [], vs, h => h
  | d :: ds, vs, h => by
    obtain ⟨v, r, e, h1, h2⟩ := h
    exact ⟨v, r, e, RepG.same s h1, RepGL.same s h2⟩
theorem SRa.same (h : SRa Y O α ρ σ H) (s : Same H H') : SRa Y O α ρ σ H' where
  len := h.len
  val := fun i d e => let ⟨v, e1, r⟩ := h.val i d e; ⟨v, e1, r.same s⟩
  own := fun i d e => let ⟨e1, n, r⟩ := h.own i d e; ⟨e1, n, r.same s⟩
  slf := fun i d e => let ⟨e1, n, c, ks, l, dx, vs, e2, e3, e4, r⟩ := h.slf i d e; ⟨e1, n, c, ks, l, dx, vs, e2, s _ _ e3, e4, r.same s⟩
  gho := fun i d e => let ⟨r, k⟩ := h.gho i d e; ⟨r.same s, k⟩
  inj := h.inj
  oeq := h.oeq
  zt := fun a z q => h.zt a z (s.free q)
  ot := fun a z q => h.ot a z (s.free q)
theorem SR.same (h : SR Y O ρ σ H) (s : Same H H') : SR Y O ρ σ H' := let ⟨α, h⟩ := h; ⟨α, h.same s⟩
theorem SR.zt (h : SR Y O ρ σ H) : ∀ a, Zo Y.Ze O a → H a ≠ none := fun a z => let ⟨_, h⟩ := h; z.elim (h.zt a) (h.ot a)
end
def EPost (Y : Cy) (O : Addr → Prop) (σ : St) (H : Hp) (Q : VK) : R D → Prop
  | .ok d => ∀ v H', Same H H' → Rep Y.G (Zo Y.Ze O) H' d v → Q v H'
  | .ex e => ∀ c od H', Same H H' → ExRep Y.G (Zo Y.Ze O) H' e c od → Y.E c od σ H'
  | .no => False
def EPostW (Y : Cy) (O : Addr → Prop) (σ : St) (H : Hp) (Q : VK) : R D → Prop
  | .ok d => ∀ v H', Same H H' → RepW Y.G (Zo Y.Ze O) H' d v → Q v H'
  | .ex e => ∀ c od H', Same H H' → ExRep Y.G (Zo Y.Ze O) H' e c od → Y.E c od σ H'
  | .no => False
def APost (Y : Cy) (O : Addr → Prop) (σ : St) (H : Hp) (Q : List V → Hp → Prop) : R (List D) → Prop
  | .ok ds => ∀ vs H', Same H H' → RepL Y.G (Zo Y.Ze O) H' ds vs → Q vs H'
  | .ex e => ∀ c od H', Same H H' → ExRep Y.G (Zo Y.Ze O) H' e c od → Y.E c od σ H'
  | .no => False
def BPost (Y : Cy) (O : Addr → Prop) (σ : St) (H : Hp) (Q : Bool → Hp → Prop) : R Bool → Prop
  | .ok b => ∀ H', Same H H' → Q b H'
  | .ex e => ∀ c od H', Same H H' → ExRep Y.G (Zo Y.Ze O) H' e c od → Y.E c od σ H'
  | .no => False
def tD (Y : Cy) (f : DE) : TE := fun σ H Q => ∃ O ρ, SR Y O ρ σ H ∧ EPost Y O σ H Q (f ρ)
def tDw (Y : Cy) (f : DE) : TE := fun σ H Q => ∃ O ρ, SR Y O ρ σ H ∧ EPostW Y O σ H Q (f ρ)
def tDA (Y : Cy) (f : DA) : TA := fun σ H Q => ∃ O ρ, SR Y O ρ σ H ∧ APost Y O σ H Q (f ρ)
def tDT (Y : Cy) (f : DT) : TT := fun σ H Q => ∃ O ρ, SR Y O ρ σ H ∧ BPost Y O σ H Q (f ρ)
def SPost (Y : Cy) (O : Addr → Prop) (H : Hp) (N : Ends) : R Out → Prop
  | .ok (.nx ρ) => ∀ O' σ' H', Stp O H O' H' → SR Y O' ρ σ' H' → N.nx σ' H'
  | .ok (.bk ρ) => ∀ O' σ' H', Stp O H O' H' → SR Y O' ρ σ' H' → N.bk σ' H'
  | .ok (.ct ρ) => ∀ O' σ' H', Stp O H O' H' → SR Y O' ρ σ' H' → N.ct σ' H'
  | .ok (.rt d ρ) => ∀ O' σ' H' v, Stp O H O' H' → SR Y O' ρ σ' H' → Rep Y.G (Zo Y.Ze O') H' d v → N.rt v H'
  | .ok (.xx e ρ) => ∀ O' σ' H' c od, Stp O H O' H' → SR Y O' ρ σ' H' → ExRep Y.G (Zo Y.Ze O') H' e c od → Y.E c od σ' H'
  | .ex _ => False
  | .no => False
def tDS (Y : Cy) (F : DS) : TS := fun N σ H => ∃ O ρ, SR Y O ρ σ H ∧ SPost Y O H N (F ρ)
structure Lk (X : Cx) (Y : Cy) : Prop where
  K : X.K = Y.G.K
  ln : X.N.length = Y.n
  tk : Takes X Y.E
  rm : Room Y.lv X.A
  nd : X.N.Nodup
  po : PassesOwn (model X.prog X.w) X.A X.env X.xe
  calm : X.calm = true
def PD (X : Cx) (Y : Cy) (e : Expr) (f : DE) : Prop := Lk X Y → PE X e (tD Y f)
def PDw (X : Cx) (Y : Cy) (e : Expr) (f : DE) : Prop := Lk X Y → PE X e (tDw Y f)
def PDA (X : Cx) (Y : Cy) (es : List Expr) (f : DA) : Prop := Lk X Y → PA X es (tDA Y f)
def PDT (X : Cx) (Y : Cy) (e : Expr) (f : DT) : Prop := Lk X Y → PT X e (tDT Y f)
def PDTw (X : Cx) (Y : Cy) (e : Expr) (f : DT) : Prop := Lk X Y → PW X e (tDT Y f)
def PDS (X : Cx) (Y : Cy) (st : Stmt) (F : DS) : Prop := Lk X Y → PS X st (tDS Y F)
def PDSs (X : Cx) (Y : Cy) (st : List Stmt) (F : DS) : Prop := Lk X Y → PSs X st (tDS Y F)
theorem impPE {X : Cx} {e : Expr} {t t' : TE} (h : PE X e t) (i : ∀ σ H Q, t' σ H Q → t σ H Q) : PE X e t' := ⟨fun pins s σ H Q I q => h.run pins s σ H Q I (i σ H Q q)⟩
theorem impPT {X : Cx} {e : Expr} {t t' : TT} (h : PT X e t) (i : ∀ σ H Q, t' σ H Q → t σ H Q) : PT X e t' := ⟨fun pins s σ H Q I q => h.run pins s σ H Q I (i σ H Q q)⟩
theorem impPW {X : Cx} {e : Expr} {t t' : TT} (h : PW X e t) (i : ∀ σ H Q, t' σ H Q → t σ H Q) : PW X e t' := ⟨fun w pins s σ H Q I q => h.run w pins s σ H Q I (i σ H Q q)⟩
theorem impPA {X : Cx} {e : List Expr} {t t' : TA} (h : PA X e t) (i : ∀ σ H Q, t' σ H Q → t σ H Q) : PA X e t' := ⟨fun p pins s σ H Q I q => h.run p pins s σ H Q I (i σ H Q q)⟩
theorem impPS {X : Cx} {e : Stmt} {t t' : TS} (h : PS X e t) (i : ∀ N σ H, t' N σ H → t N σ H) : PS X e t' := ⟨fun pins s σ H N I q => h.run pins s σ H N I (i N σ H q)⟩
theorem impPSs {X : Cx} {e : List Stmt} {t t' : TS} (h : PSs X e t) (i : ∀ N σ H, t' N σ H → t N σ H) : PSs X e t' := ⟨fun pins s σ H N I q => h.run pins s σ H N I (i N σ H q)⟩
theorem EPost.w {Y : Cy} {O : Addr → Prop} {σ : St} {H : Hp} {Q : VK} {r : R D} (h : EPostW Y O σ H Q r) : EPost Y O σ H Q r := by
  cases r with
  | ok d => exact fun v H' s q => h v H' s q.w
  | ex e => exact h
  | no => exact h
theorem PD.w {X : Cx} {Y : Cy} {e : Expr} {f : DE} (h : PD X Y e f) : PDw X Y e f := fun k => impPE (h k) fun σ H Q ⟨O, ρ, s, q⟩ => ⟨O, ρ, s, EPost.w q⟩
end Tw

set_option maxHeartbeats 2000000
namespace Tw
open PySem PySem.Spec L2
open PyProof.Rows hiding St
/-- what is wanted of an operation's answer -/
def OPost (G : Gc) (Z : Addr → Prop) (H : Hp) (Q : VK) : Option D → Prop
  | some d => ∀ v H', Same H H' → Rep G Z H' d v → Q v H'
  | none => False
def Op2 (G : Gc) (r : R2) (g : D → D → Option D) : Prop := ∀ (Z : Addr → Prop) (H : Hp) (x y : V) (dx dy : D) (Q : VK), (∀ a, Z a → H a ≠ none) → RepW G Z H dx x → RepW G Z H dy y → OPost G Z H Q (g dx dy) → r x y H Q
def Op1 (G : Gc) (r : V → Hp → VK → Prop) (g : D → Option D) : Prop := ∀ (Z : Addr → Prop) (H : Hp) (x : V) (dx : D) (Q : VK), (∀ a, Z a → H a ≠ none) → RepW G Z H dx x → OPost G Z H Q (g dx) → r x H Q
section
variable {X : Cx} {Y : Cy} {a b c : Expr} {fa fb fc : DE} {pos : Pos}
theorem ex_fwd {Y : Cy} {O : Addr → Prop} {σ : L2.St} {H H1 : Hp} {e : Ex} (s : Same H H1) (h : ∀ c od H', Same H H' → ExRep Y.G (Zo Y.Ze O) H' e c od → Y.E c od σ H') :
    ∀ c od H', Same H1 H' → ExRep Y.G (Zo Y.Ze O) H' e c od → Y.E c od σ H' := fun c od H' s' => h c od H' (s.trans s')
/-- two operands, an operation -/
theorem bin_imp {r : R2} {g : D → D → Option D} (ho : Op2 Y.G r g) (σ : L2.St) (H : Hp) (Q : VK) (h : tD Y (e2 g fa fb) σ H Q) : tOp r (tDw Y fa) (tDw Y fb) σ H Q := by
  obtain ⟨O, ρ, s, q⟩ := h
  refine ⟨O, ρ, s, ?_⟩
  unfold e2 at q
  cases ea : fa ρ with
  | ex e => rw [ea] at q; exact q
  | no => rw [ea] at q; exact q
  | ok dx =>
    rw [ea] at q
    intro x H1 s1 rx
    refine ⟨O, ρ, s.same s1, ?_⟩
    simp only [R.bind_ok] at q
    cases eb : fb ρ with
    | ex e => rw [eb] at q; exact ex_fwd s1 q
    | no => rw [eb] at q; exact q
    | ok dy =>
      rw [eb] at q
      simp only [R.bind_ok] at q
      intro y H2 s2 ry
      refine ho _ H2 x y dx dy Q ((s.same (s1.trans s2)).zt) (rx.same s2) ry ?_
      cases eg : g dx dy with
      | none => rw [eg] at q; exact q
      | some d => rw [eg] at q; exact fun v H3 s3 rv => q v H3 (s1.trans (s2.trans s3)) rv
theorem un_imp {r : V → Hp → VK → Prop} {g : D → Option D} (ho : Op1 Y.G r g) (σ : L2.St) (H : Hp) (Q : VK) (h : tD Y (e1 g fa) σ H Q) : tDw Y fa σ H (fun x H1 => r x H1 Q) := by
  obtain ⟨O, ρ, s, q⟩ := h
  refine ⟨O, ρ, s, ?_⟩
  unfold e1 at q
  cases ea : fa ρ with
  | ex e => rw [ea] at q; exact q
  | no => rw [ea] at q; exact q
  | ok dx =>
    rw [ea] at q
    intro x H1 s1 rx
    refine ho _ H1 x dx Q ((s.same s1).zt) rx ?_
    simp only [R.bind_ok] at q
    cases eg : g dx with
    | none => rw [eg] at q; exact q
    | some d => rw [eg] at q; exact fun v H3 s3 rv => q v H3 (s1.trans s3) rv
theorem pd_op {op : Operator} {r : R2} {g : D → D → Option D} (hr : Lk X Y → OpR X (binaryOp op) r) (ho : X.K = Y.G.K → Op2 Y.G r g) (ha : PDw X Y a fa) (hb : PDw X Y b fb) : PD X Y (.BinOp a op b pos) (e2 g fa fb) :=
  fun k => impPE (pe_op (hr k) (ha k) (hb k)) (bin_imp (ho k.K))
theorem pd_cmp {op : CmpOp} {r : R2} {g : D → D → Option D} (hr : Lk X Y → OpR X (compareOp op) r) (ho : X.K = Y.G.K → Op2 Y.G r g) (ha : PDw X Y a fa) (hb : PDw X Y b fb) (hm : behindInMarks op b = false) : PD X Y (.Compare a [op] [b] pos) (e2 g fa fb) :=
  fun k => impPE (pe_cmpR (hr k) (ha k) (hb k) hm) (bin_imp (ho k.K))
theorem pd_un {op : UnaryOp} {r : V → Hp → VK → Prop} {g : D → Option D} (hr : Lk X Y → UnR X (unaryOp op) r) (ho : X.K = Y.G.K → Op1 Y.G r g) (ha : PDw X Y a fa) : PD X Y (.UnaryOp op a pos) (e1 g fa) :=
  fun k => impPE (pe_un (hr k) (ha k)) (un_imp (ho k.K))
theorem pd_ixR {r : R2} {g : D → D → Option D} (hr : IxR X r) (ho : X.K = Y.G.K → Op2 Y.G r g) (ha : PDw X Y a fa) (hb : PDw X Y b fb) (hs : PlainIx b) : PD X Y (.Subscript a b pos) (e2 g fa fb) :=
  fun k => impPE (pe_ix hr (ha k) (hb k) hs) (bin_imp (ho k.K))
theorem pd_var (i : Nat) {x : Str} (hN : X.N[i]? = some x := by rfl) (hv : Vis X.env.scope x := by first | exact Or.inl rfl | exact Or.inr (Or.inl rfl) | exact Or.inr (Or.inr rfl)) (hd : (x == ("__debug__" : Str)) = false := by decide)
    (hcd : (x == ("__classdict__" : Str)) = false := by decide) : PD X Y (.Name x pos) (eVar i) := fun k => impPE (pe_var hN hv hd hcd) fun σ H Q ⟨O, ρ, ⟨α, s⟩, q⟩ => by
  unfold eVar at q
  split at q
  · rename_i d e
    obtain ⟨v, e1, r⟩ := s.val i d e
    exact ⟨v, e1, q v H (Same.refl H) r⟩
  · exact q.elim
theorem pd_look (i : Nat) {x : Str} (hN : X.N[i]? = some x := by rfl) (hv : Vis X.env.scope x := by first | exact Or.inl rfl | exact Or.inr (Or.inl rfl) | exact Or.inr (Or.inr rfl)) (hd : (x == ("__debug__" : Str)) = false := by decide)
    (hcd : (x == ("__classdict__" : Str)) = false := by decide) : PDw X Y (.Name x pos) (eLook i) := fun k => impPE (pe_var hN hv hd hcd) fun σ H Q ⟨O, ρ, ⟨α, s⟩, q⟩ => by
  unfold eLook at q
  split at q
  · rename_i d e
    obtain ⟨v, e1, r⟩ := s.val i d e
    exact ⟨v, e1, q v H (Same.refl H) r.w⟩
  · rename_i d e
    obtain ⟨e1, _, r⟩ := s.own i d e
    exact ⟨_, e1, q _ H (Same.refl H) r⟩
  · exact q.elim
theorem pd_const {t : TE} {d : D} {v : V} (h : PE X a t) (ht : t = tC v) (hv : ∀ Z H, Rep Y.G Z H d v) : PD X Y a (eC d) := fun k => impPE h fun σ H Q ⟨O, ρ, s, q⟩ => by
  subst ht
  exact q v H (Same.refl H) (hv _ _)
theorem pd_int {i : Int} {j : Nat} : PD X Y (.Constant (.int i) j pos) (eC (.int i)) := pd_const pe_int rfl fun _ _ => rfl
theorem pd_bl {i : Bool} {j : Nat} : PD X Y (.Constant (.bool i) j pos) (eC (.bl i)) := pd_const pe_bl rfl fun _ _ => rfl
theorem pd_non {j : Nat} : PD X Y (.Constant .none j pos) (eC .non) := pd_const pe_non rfl fun _ _ => rfl
theorem pd_str {x : Str} {j : Nat} : PD X Y (.Constant (.str x) j pos) (eC (.str x)) := pd_const pe_str rfl fun _ _ => rfl
theorem pd_glob {x : Str} {u : Value} {d : D} {v : V} (hg : Gl X x) (hm : X.mg x = some u) (r : RelV v u) (hv : ∀ Z H, Rep Y.G Z H d v) (hd : (x == ("__debug__" : Str)) = false := by decide) : PD X Y (.Name x pos) (eC d) := pd_const (pe_glob hg hm r hd) rfl hv
theorem same_new {H : Hp} {n : Addr} {o : HO} (hn : H n = none) : Same H (upd H n o) := fun b u e => by rw [upd_ne (ne_of_none e hn)]; exact e
theorem lineD_eq : (sizeLine : Nat) = lineD := sizeLine_eq
theorem isEmpty_len {α β : Type} {xs : List α} {ys : List β} (h : xs.length = ys.length) : xs.isEmpty = ys.isEmpty := by
  cases xs <;> cases ys <;> simp_all
theorem rep_tup {G : Gc} {Z : Addr → Prop} {H : Hp} {l : List D} {v : V} (h : Rep G Z H (.tup l) v) : ∃ a vs, v = .ref a ∧ SqT G.K H a vs ∧ RepL G Z H l vs := by
  obtain ⟨a, vs, e, t, r⟩ := h
  rcases t with ⟨_, t⟩ | t
  · exact ⟨a, vs, e, .inl (.inl t), r⟩
  · exact ⟨a, vs, e, .inr t, r⟩
theorem rep_scr {G : Gc} {Z : Addr → Prop} {H : Hp} {l : List Int} {v : V} (h : Rep G Z H (.scr l) v) : ∃ a, v = .ref a ∧ SqL G.K H a (l.map V.int) := by
  obtain ⟨a, e, t⟩ := h
  rcases t with ⟨_, t⟩ | t
  · exact ⟨a, e, .inl t⟩
  · exact ⟨a, e, .inr t⟩
theorem RepL.nil_iff {G : Gc} {Z : Addr → Prop} {H : Hp} {l : List D} {vs : List V} (h : RepL G Z H l vs) : vs = [] ↔ l = [] := by
  have := h.length
  cases l <;> cases vs <;> simp_all
def rAddD (K : PySem.W.Frag) : R2 := fun x y H Q => (rI0 fun i j => V.int (i + j)) x y H Q ∨ ((∃ i j, x = V.str i ∧ y = V.str j ∧ i.length + j.length ≤ sizeLine ∧ Q (.str (i ++ j)) H) ∨ (rCat x y H Q ∨ rCatA K x y H Q))
theorem op_addD : OpR X (binaryOp .Add) (rAddD X.K) := op_add.or (op_add_str.or (op_cat.or op_catA))
theorem o2_add (G : Gc) : Op2 G (rAddD G.K) oAdd := by
  intro Z H x y dx dy Q zt rx ry h
  unfold oAdd at h
  split at h
  · rename_i i j
    exact .inl ⟨i, j, rx, ry, h _ H (Same.refl H) rfl⟩
  · rename_i i j
    split at h
    · rename_i hl
      exact .inr (.inl ⟨i, j, rx, ry, by rw [lineD_eq]; exact hl, h _ H (Same.refl H) rfl⟩)
    · exact h.elim
  · rename_i l m
    split at h
    · rename_i hl
      obtain ⟨p, vs, rfl, hp, r1⟩ := rx
      obtain ⟨q, us, rfl, hq, r2⟩ := ry
      refine .inr (.inr (.inl ⟨p, q, vs, us, rfl, rfl, hp, hq, by rw [lineD_eq, ← r1.length, ← r2.length]; exact hl, fun n hn => ?_⟩))
      exact h _ _ (same_new hn) ⟨n, _, rfl, fun z => zt n z hn, upd_same, (r1.append r2).same (same_new hn)⟩
    · exact h.elim
  · rename_i l m
    split at h
    · rename_i hl
      obtain ⟨p, vs, rfl, hp, r1⟩ := rep_tup rx
      obtain ⟨q, us, rfl, hq, r2⟩ := rep_tup ry
      refine .inr (.inr (.inr ⟨p, q, vs, us, rfl, rfl, hp, hq, by rw [lineD_eq, ← r1.length, ← r2.length]; exact hl, fun e => ?_, fun _ e => ?_, fun _ _ n hn => ?_⟩))
      · rw [r1.nil_iff.mp e] at h
        exact h _ H (Same.refl H) (show Rep G Z H (.tup ([] ++ m)) _ from ry)
      · rw [r2.nil_iff.mp e, List.append_nil] at h
        exact h _ H (Same.refl H) rx
      · exact h _ _ (same_new hn) ⟨n, _, rfl, .inl ⟨fun z => zt n z hn, upd_same⟩, (r1.append r2).same (same_new hn)⟩
    · exact h.elim
  · exact h.elim
theorem pd_add (ha : PDw X Y a fa) (hb : PDw X Y b fb) : PD X Y (.BinOp a .Add b pos) (e2 oAdd fa fb) := pd_op (fun _ => op_addD) (fun k => by rw [k]; exact o2_add _) ha hb
/-- operations on two ints -/
theorem o2_int {G : Gc} {r : R2} {g : D → D → Option D} (h : ∀ (i j : Int) (H : Hp) (Q : VK) (d : D), g (.int i) (.int j) = some d → (∀ v, (∀ Z H', Rep G Z H' d v) → Q v H) → r (.int i) (.int j) H Q) (hg : ∀ x y d, g x y = some d → ∃ i j, x = .int i ∧ y = .int j)
    (hf : ∀ x y d, g x y = some d → flatD d = true) : Op2 G r g := by
  intro Z H x y dx dy Q zt rx ry q
  cases e : g dx dy with
  | none => rw [e] at q; exact q.elim
  | some d =>
    obtain ⟨i, j, rfl, rfl⟩ := hg _ _ _ e
    obtain rfl : x = .int i := rx
    obtain rfl : y = .int j := ry
    rw [e] at q
    exact h i j H Q d e fun v hv => q v H (Same.refl H) (hv _ _)
def rSubI : R2 := rI0 fun i j => V.int (i - j)
theorem op_subI : OpR X (binaryOp .Sub) rSubI := op_sub
theorem o2_sub (G : Gc) : Op2 G rSubI oSub := by
  intro Z H x y dx dy Q zt rx ry h
  unfold oSub at h
  split at h
  · rename_i i j
    exact ⟨i, j, rx, ry, h _ H (Same.refl H) rfl⟩
  · exact h.elim
theorem pd_sub (ha : PDw X Y a fa) (hb : PDw X Y b fb) : PD X Y (.BinOp a .Sub b pos) (e2 oSub fa fb) := pd_op (fun _ => op_subI) (fun _ => o2_sub _) ha hb
def rFdivI : R2 := rI CDiv fun i j => V.int (i / j)
theorem o2_fdiv (G : Gc) : Op2 G rFdivI oFdiv := by
  intro Z H x y dx dy Q zt rx ry h
  unfold oFdiv at h
  split at h
  · rename_i i j
    split at h
    · rename_i hc
      exact ⟨i, j, rx, ry, hc, h _ H (Same.refl H) rfl⟩
    · exact h.elim
  · exact h.elim
theorem pd_fdiv (ha : PDw X Y a fa) (hb : PDw X Y b fb) : PD X Y (.BinOp a .FloorDiv b pos) (e2 oFdiv fa fb) := pd_op (r := rFdivI) (fun _ => op_fdiv) (fun _ => o2_fdiv _) ha hb
def rModI : R2 := rI (fun _ j => 0 < j) fun i j => V.int (i % j)
theorem o2_mod (G : Gc) : Op2 G rModI oMod := by
  intro Z H x y dx dy Q zt rx ry h
  unfold oMod at h
  split at h
  · rename_i i j
    split at h
    · rename_i hc
      exact ⟨i, j, rx, ry, hc, h _ H (Same.refl H) rfl⟩
    · exact h.elim
  · exact h.elim
theorem pd_mod (ha : PDw X Y a fa) (hb : PDw X Y b fb) : PD X Y (.BinOp a .Mod b pos) (e2 oMod fa fb) := pd_op (r := rModI) (fun _ => op_mod) (fun _ => o2_mod _) ha hb
def rPowI : R2 := rI CPow fun i j => V.int (i ^ j.toNat)
theorem o2_pow (G : Gc) : Op2 G rPowI oPow := by
  intro Z H x y dx dy Q zt rx ry h
  unfold oPow at h
  split at h
  · rename_i i j
    split at h
    · rename_i hc
      exact ⟨i, j, rx, ry, hc, h _ H (Same.refl H) rfl⟩
    · exact h.elim
  · exact h.elim
theorem pd_pow (ha : PDw X Y a fa) (hb : PDw X Y b fb) : PD X Y (.BinOp a .Pow b pos) (e2 oPow fa fb) := pd_op (r := rPowI) (fun _ => op_pow) (fun _ => o2_pow _) ha hb
theorem o2_lt (G : Gc) : Op2 G (rI0 fun i j => V.bl (decide (i < j))) oLt := by
  intro Z H x y dx dy Q zt rx ry h
  unfold oLt at h
  split at h
  · rename_i i j
    exact ⟨i, j, rx, ry, h _ H (Same.refl H) rfl⟩
  · exact h.elim
theorem o2_le (G : Gc) : Op2 G (rI0 fun i j => V.bl (decide (i ≤ j))) oLe := by
  intro Z H x y dx dy Q zt rx ry h
  unfold oLe at h
  split at h
  · rename_i i j
    exact ⟨i, j, rx, ry, h _ H (Same.refl H) rfl⟩
  · exact h.elim
theorem o2_gt (G : Gc) : Op2 G (rI0 fun i j => V.bl (decide (j < i))) oGt := by
  intro Z H x y dx dy Q zt rx ry h
  unfold oGt at h
  split at h
  · rename_i i j
    exact ⟨i, j, rx, ry, h _ H (Same.refl H) rfl⟩
  · exact h.elim
theorem o2_ge (G : Gc) : Op2 G (rI0 fun i j => V.bl (decide (j ≤ i))) oGe := by
  intro Z H x y dx dy Q zt rx ry h
  unfold oGe at h
  split at h
  · rename_i i j
    exact ⟨i, j, rx, ry, h _ H (Same.refl H) rfl⟩
  · exact h.elim
theorem pd_lt (ha : PDw X Y a fa) (hb : PDw X Y b fb) : PD X Y (.Compare a [.Lt] [b] pos) (e2 oLt fa fb) := pd_cmp (fun _ => op_lt) (fun _ => o2_lt _) ha hb (nomark _)
theorem pd_le (ha : PDw X Y a fa) (hb : PDw X Y b fb) : PD X Y (.Compare a [.LtE] [b] pos) (e2 oLe fa fb) := pd_cmp (fun _ => op_le) (fun _ => o2_le _) ha hb (nomark _)
theorem pd_gt (ha : PDw X Y a fa) (hb : PDw X Y b fb) : PD X Y (.Compare a [.Gt] [b] pos) (e2 oGt fa fb) := pd_cmp (fun _ => op_gt) (fun _ => o2_gt _) ha hb (nomark _)
theorem pd_ge (ha : PDw X Y a fa) (hb : PDw X Y b fb) : PD X Y (.Compare a [.GtE] [b] pos) (e2 oGe fa fb) := pd_cmp (fun _ => op_ge) (fun _ => o2_ge _) ha hb (nomark _)
theorem RepL.rep {G : Gc} {Z : Addr → Prop} {H : Hp} {l : List D} {vs : List V} (h : RepL G Z H l vs) : ∀ n : Nat, RepL G Z H (List.replicate n l).flatten (List.replicate n vs).flatten
  | 0 => RepL.nil
  | n + 1 => by
    rw [List.replicate_succ, List.replicate_succ, List.flatten_cons, List.flatten_cons]
    exact h.append (RepL.rep h n)
theorem RepL.repl_len {l : List D} {n : Nat} : ((List.replicate n l).flatten).length = l.length * n := by
  induction n with
  | zero => simp
  | succ n ih => rw [List.replicate_succ, List.flatten_cons, List.length_append, ih, Nat.mul_succ, Nat.add_comm]
def rMulS : R2 := fun x y H Q => ∃ (s : Str) (k : Int), x = .str s ∧ y = .int k ∧ 0 ≤ k ∧ k ≤ 1 ∧ Q (.str (repS s k.toNat)) H
theorem op_mul_str1 : OpR X (binaryOp .Mult) rMulS := by
  intro pins s σ H x y v u Q I rx ry h
  obtain ⟨z, k, rfl, rfl, h0, h1, q⟩ := h
  obtain ⟨t, rfl⟩ := rx
  obtain ⟨t', rfl⟩ := ry
  have hk : k = 0 ∨ k = 1 := by omega
  refine PySem.SB.mul (x := z) (n := k) ⟨?_, fun a b => ?_, fun a b => ?_⟩ fun t2 k2 => ⟨.str _, H, I.tok _, ⟨t2, ?_⟩, q⟩
  · rcases hk with rfl | rfl <;> decide
  · rcases hk with rfl | rfl
    · exact absurd (by decide) a
    · simp at b
  · rcases hk with rfl | rfl
    · exact absurd (by decide) a
    · simp at b
  · rcases hk with rfl | rfl
    · rfl
    · have e1 : repS z (1 : Int).toNat = z := by
        show z ++ Str.empty = z
        obtain ⟨c⟩ := z
        show (⟨c ++ #[]⟩ : Str) = ⟨c⟩
        simp
      rw [e1]
      rfl
def rMulD : R2 := fun x y H Q => (rI CMul fun i j => V.int (i * j)) x y H Q ∨ (rRep x y H Q ∨ rMulS x y H Q)
theorem op_mulD : OpR X (binaryOp .Mult) rMulD := op_mul.or (op_rep.or op_mul_str1)
theorem o2_mul (G : Gc) : Op2 G rMulD oMul := by
  intro Z H x y dx dy Q zt rx ry h
  unfold oMul at h
  split at h
  · rename_i i j
    split at h
    · rename_i hc
      exact .inl ⟨i, j, rx, ry, hc, h _ H (Same.refl H) rfl⟩
    · exact h.elim
  · rename_i l k
    split at h
    · rename_i hc
      obtain ⟨p, vs, rfl, hp, r1⟩ := rx
      refine .inr (.inl ⟨p, k, vs, rfl, ry, hp, hc.1, hc.2.1, by rw [lineD_eq, ← r1.length]; exact hc.2.2, fun n hn => ?_⟩)
      exact h _ _ (same_new hn) ⟨n, _, rfl, fun z => zt n z hn, upd_same, (r1.rep _).same (same_new hn)⟩
    · exact h.elim
  · rename_i z k
    split at h
    · rename_i hc
      exact .inr (.inr ⟨z, k, rx, ry, hc.1, hc.2, h _ H (Same.refl H) rfl⟩)
    · exact h.elim
  · exact h.elim
theorem pd_mul (ha : PDw X Y a fa) (hb : PDw X Y b fb) : PD X Y (.BinOp a .Mult b pos) (e2 oMul fa fb) := pd_op (fun _ => op_mulD) (fun _ => o2_mul _) ha hb
end
mutual
def toPy : D → PyData
  | .bl b => .bool b
  | .int i => .int i
  | .str s => .str s
  | .lst l => .list (toPyL l)
  | .tup l => .tuple (toPyL l)
  | _ => .none
def toPyL : List D → List PyData
  | [] => []
  | d :: ds => toPy d :: toPyL ds
end
mutual
theorem deq_py : ∀ (k j : Nat) (d e : D), shp k d = true → shp j e = true → deq d e = PyData.eqv (toPy d) (toPy e)
  | k, j, .lst l, .lst m, h1, h2 => by
    cases k with
    | zero => simp [shp] at h1
    | succ k =>
      cases j with
      | zero => simp [shp] at h2
      | succ j =>
        simp only [deq, toPy, PyData.eqv]
        exact deqL_py k j l m (by simpa [shp] using h1) (by simpa [shp] using h2)
  | k, j, .tup l, .tup m, h1, h2 => by
    cases k with
    | zero => simp [shp] at h1
    | succ k =>
      cases j with
      | zero => simp [shp] at h2
      | succ j =>
        simp only [deq, toPy, PyData.eqv]
        exact deqL_py k j l m (by simpa [shp] using h1) (by simpa [shp] using h2)
  | k, j, .non, e, h1, h2 => by cases e <;> first | (exfalso; cases j <;> simp [shp] at h2; done) | simp [deq, toPy, PyData.eqv]
  | k, j, .bl b, e, h1, h2 => by cases e <;> first | (exfalso; cases j <;> simp [shp] at h2; done) | simp [deq, toPy, PyData.eqv]
  | k, j, .int i, e, h1, h2 => by cases e <;> first | (exfalso; cases j <;> simp [shp] at h2; done) | simp [deq, toPy, PyData.eqv]
  | k, j, .str i, e, h1, h2 => by cases e <;> first | (exfalso; cases j <;> simp [shp] at h2; done) | simp [deq, toPy, PyData.eqv]
  | k, j, .cls n, e, h1, h2 => by cases k <;> simp [shp] at h1
  | k, j, .scr n, e, h1, h2 => by cases k <;> simp [shp] at h1
  | k, j, .gst n, e, h1, h2 => by cases k <;> simp [shp] at h1
  | k, j, .dct n m, e, h1, h2 => by cases k <;> simp [shp] at h1
  | k, j, .obj n m o, e, h1, h2 => by cases k <;> simp [shp] at h1
  | k, j, .lst l, .non, h1, h2 => by simp [deq, toPy, PyData.eqv]
  | k, j, .lst l, .bl _, h1, h2 => by simp [deq, toPy, PyData.eqv]
  | k, j, .lst l, .int _, h1, h2 => by simp [deq, toPy, PyData.eqv]
  | k, j, .lst l, .str _, h1, h2 => by simp [deq, toPy, PyData.eqv]
  | k, j, .lst l, .tup _, h1, h2 => by simp [deq, toPy, PyData.eqv]
  | k, j, .lst l, .cls _, h1, h2 => by cases j <;> simp [shp] at h2
  | k, j, .lst l, .scr _, h1, h2 => by cases j <;> simp [shp] at h2
  | k, j, .lst l, .gst _, h1, h2 => by cases j <;> simp [shp] at h2
  | k, j, .lst l, .dct _ _, h1, h2 => by cases j <;> simp [shp] at h2
  | k, j, .lst l, .obj _ _ _, h1, h2 => by cases j <;> simp [shp] at h2
  | k, j, .tup l, .non, h1, h2 => by simp [deq, toPy, PyData.eqv]
  | k, j, .tup l, .bl _, h1, h2 => by simp [deq, toPy, PyData.eqv]
  | k, j, .tup l, .int _, h1, h2 => by simp [deq, toPy, PyData.eqv]
  | k, j, .tup l, .str _, h1, h2 => by simp [deq, toPy, PyData.eqv]
  | k, j, .tup l, .lst _, h1, h2 => by simp [deq, toPy, PyData.eqv]
  | k, j, .tup l, .cls _, h1, h2 => by cases j <;> simp [shp] at h2
  | k, j, .tup l, .scr _, h1, h2 => by cases j <;> simp [shp] at h2
  | k, j, .tup l, .gst _, h1, h2 => by cases j <;> simp [shp] at h2
  | k, j, .tup l, .dct _ _, h1, h2 => by cases j <;> simp [shp] at h2
  | k, j, .tup l, .obj _ _ _, h1, h2 => by cases j <;> simp [shp] at h2
theorem deqL_py : ∀ (k j : Nat) (d e : List D), (∀ x ∈ d, shp k x = true) → (∀ x ∈ e, shp j x = true) → deqL d e = PyData.eqvAll (toPyL d) (toPyL e)
  | k, j, [], [], h1, h2 => by simp [deqL, toPyL, PyData.eqvAll]
  | k, j, [], y :: e, h1, h2 => by simp [deqL, toPyL, PyData.eqvAll]
  | k, j, x :: d, [], h1, h2 => by simp [deqL, toPyL, PyData.eqvAll]
  | k, j, x :: d, y :: e, h1, h2 => by
    simp only [deqL, toPyL, PyData.eqvAll]
    rw [deq_py k j x y (h1 x List.mem_cons_self) (h2 y List.mem_cons_self), deqL_py k j d e (fun z hz => h1 z (List.mem_cons_of_mem _ hz)) (fun z hz => h2 z (List.mem_cons_of_mem _ hz))]
end
mutual
theorem py_lay : ∀ (k : Nat) (d : D), shp k d = true → (toPy d).canLay0 = true ∧ (toPy d).depth ≤ k
  | k, .lst l, h1 => by
    cases k with
    | zero => simp [shp] at h1
    | succ k =>
      obtain ⟨a, b⟩ := pyL_lay k l (by simpa [shp] using h1)
      simp only [toPy, PyData.canLay0, PyData.depth]
      exact ⟨a, by omega⟩
  | k, .tup l, h1 => by
    cases k with
    | zero => simp [shp] at h1
    | succ k =>
      obtain ⟨a, b⟩ := pyL_lay k l (by simpa [shp] using h1)
      simp only [toPy, PyData.canLay0, PyData.depth]
      exact ⟨a, by omega⟩
  | k, .non, h1 => by simp [toPy, PyData.canLay0, PyData.depth]
  | k, .bl b, h1 => by simp [toPy, PyData.canLay0, PyData.depth]
  | k, .int b, h1 => by simp [toPy, PyData.canLay0, PyData.depth]
  | k, .str b, h1 => by
    refine ⟨?_, by simp [toPy, PyData.depth]⟩
    have : strOkD b = true := by cases k <;> simpa [shp] using h1
    simp only [toPy, PyData.canLay0]
    exact this
  | k, .cls n, h1 => by cases k <;> simp [shp] at h1
  | k, .scr n, h1 => by cases k <;> simp [shp] at h1
  | k, .gst n, h1 => by cases k <;> simp [shp] at h1
  | k, .dct n m, h1 => by cases k <;> simp [shp] at h1
  | k, .obj n m o, h1 => by cases k <;> simp [shp] at h1
theorem pyL_lay : ∀ (k : Nat) (d : List D), (∀ x ∈ d, shp k x = true) → PyData.canLayAll0 (toPyL d) = true ∧ PyData.depthAll (toPyL d) ≤ k
  | k, [], h => by simp [toPyL, PyData.canLayAll0, PyData.depthAll]
  | k, x :: d, h => by
    obtain ⟨a, b⟩ := py_lay k x (h x List.mem_cons_self)
    obtain ⟨a2, b2⟩ := pyL_lay k d fun z hz => h z (List.mem_cons_of_mem _ hz)
    simp only [toPyL, PyData.canLayAll0, PyData.depthAll, a, a2]
    exact ⟨rfl, by omega⟩
end
mutual
theorem rep_dp {G : Gc} {Z : Addr → Prop} {H : Hp} : ∀ (k : Nat) (d : D) (v : V), shp k d = true → Rep G Z H d v → Dp G.K H v (toPy d)
  | k, .lst l, v, h1, r => by
    cases k with
    | zero => simp [shp] at h1
    | succ k =>
      obtain ⟨a, vs, rfl, _, e, r⟩ := r
      exact .lst (SqL.of e) (repL_dp k l vs (by simpa [shp] using h1) r)
  | k, .tup l, v, h1, r => by
    cases k with
    | zero => simp [shp] at h1
    | succ k =>
      obtain ⟨a, vs, rfl, e, r⟩ := rep_tup r
      exact .tup e (repL_dp k l vs (by simpa [shp] using h1) r)
  | k, .non, v, h1, r => by obtain rfl : v = .non := r; exact .non
  | k, .bl b, v, h1, r => by obtain rfl : v = .bl b := r; exact .bl b
  | k, .int b, v, h1, r => by obtain rfl : v = .int b := r; exact .int b
  | k, .str b, v, h1, r => by obtain rfl : v = .str b := r; exact .str b
  | k, .cls n, v, h1, r => by cases k <;> simp [shp] at h1
  | k, .scr n, v, h1, r => by cases k <;> simp [shp] at h1
  | k, .gst n, v, h1, r => by cases k <;> simp [shp] at h1
  | k, .dct n m, v, h1, r => by cases k <;> simp [shp] at h1
  | k, .obj n m o, v, h1, r => by cases k <;> simp [shp] at h1
theorem repL_dp {G : Gc} {Z : Addr → Prop} {H : Hp} : ∀ (k : Nat) (d : List D) (v : List V), (∀ x ∈ d, shp k x = true) → RepL G Z H d v → DpAll G.K H v (toPyL d)
  | k, [], v, h, r => by obtain rfl : v = [] := r; exact .nil
  | k, x :: d, v, h, r => by
    obtain ⟨u, w, rfl, r1, r2⟩ := r
    exact .cons (rep_dp k x u (h x List.mem_cons_self) r1) (repL_dp k d w (fun z hz => h z (List.mem_cons_of_mem _ hz)) r2)
end
theorem repw_dp {G : Gc} {Z : Addr → Prop} {H : Hp} {k : Nat} {d : D} {v : V} (h1 : shp k d = true) (r : RepW G Z H d v) : Dp G.K H v (toPy d) := by
  cases d with
  | lst l =>
    cases k with
    | zero => simp [shp] at h1
    | succ k =>
      obtain ⟨a, vs, rfl, e, r⟩ := r
      exact .lst (SqL.of e) (repL_dp k l vs (by simpa [shp] using h1) r)
  | dct a b => cases k <;> simp [shp] at h1
  | obj a b c => cases k <;> simp [shp] at h1
  | _ => exact rep_dp (Z := Z) k _ v h1 r
theorem shaped_py {k : Nat} {d : D} (h : shp k d = true) (hk : k ≤ 64) : SeqAt.shaped (toPy d) = true := by
  obtain ⟨a, b⟩ := py_lay k d h
  unfold SeqAt.shaped
  rw [a, decide_eq_true (Nat.le_trans b hk)]
  rfl
/-- scalars compare as data do -/
theorem scal_of {G : Gc} {Z : Addr → Prop} {H : Hp} {d e : D} {x y : V} (r1 : RepW G Z H d x) (r2 : RepW G Z H e y) (h : scalD d e = true) : scal x y = true ∧ decide (x = y) = deq d e := by
  cases d <;> cases e <;> simp only [scalD, Bool.false_eq_true] at h <;>
    (obtain rfl : x = _ := r1; obtain rfl : y = _ := r2; refine ⟨rfl, ?_⟩; simp only [deq]) <;> first
    | rfl
    | simp
  all_goals (first | (rename_i a b; by_cases q : a = b <;> simp [q]) | skip)
section
variable {X : Cx} {Y : Cy} {a b c : Expr} {fa fb fc : DE} {pos : Pos}
def rEqA (K : PySem.W.Frag) : R2 := fun x y H Q => rEq x y H Q ∨ rEqD K x y H Q
def rNeA (K : PySem.W.Frag) : R2 := fun x y H Q => rNe x y H Q ∨ rNeD K x y H Q
theorem o2_eq (G : Gc) : Op2 G (rEqA G.K) oEq := by
  intro Z H x y dx dy Q zt rx ry h
  unfold oEq eqD at h
  split at h
  · rename_i hs
    obtain ⟨h1, h2⟩ := scal_of rx ry hs
    exact .inl ⟨h1, by rw [h2]; exact h _ H (Same.refl H) rfl⟩
  · split at h
    · rename_i hs
      obtain ⟨h1, h2⟩ := Bool.and_eq_true_iff.mp hs
      refine .inr ⟨_, _, repw_dp h1 rx, repw_dp h2 ry, shaped_py h1 (by decide), shaped_py h2 (by decide), ?_⟩
      rw [← deq_py 60 60 dx dy h1 h2]
      exact h _ H (Same.refl H) rfl
    · exact h.elim
theorem o2_ne (G : Gc) : Op2 G (rNeA G.K) oNe := by
  intro Z H x y dx dy Q zt rx ry h
  unfold oNe eqD at h
  split at h
  · rename_i hs
    obtain ⟨h1, h2⟩ := scal_of rx ry hs
    exact .inl ⟨h1, by rw [h2]; exact h _ H (Same.refl H) rfl⟩
  · split at h
    · rename_i hs
      obtain ⟨h1, h2⟩ := Bool.and_eq_true_iff.mp hs
      refine .inr ⟨_, _, repw_dp h1 rx, repw_dp h2 ry, shaped_py h1 (by decide), shaped_py h2 (by decide), ?_⟩
      rw [← deq_py 60 60 dx dy h1 h2]
      exact h _ H (Same.refl H) rfl
    · exact h.elim
theorem hu65 {A : Around} {k : Nat} (r : Room k A) : A.units + 65 < cLine := by have := r.un; omega
theorem hu64 {A : Around} {k : Nat} (r : Room k A) : A.units + 64 < cLine := by have := r.un; omega
theorem pd_eq (ha : PDw X Y a fa) (hb : PDw X Y b fb) : PD X Y (.Compare a [.Eq] [b] pos) (e2 oEq fa fb) :=
  pd_cmp (r := rEqA X.K) (fun k => op_eq.or (op_eqD (hu64 k.rm))) (fun k => by rw [k]; exact o2_eq _) ha hb (nomark _)
theorem pd_ne (ha : PDw X Y a fa) (hb : PDw X Y b fb) : PD X Y (.Compare a [.NotEq] [b] pos) (e2 oNe fa fb) :=
  pd_cmp (r := rNeA X.K) (fun k => op_ne.or (op_neD (hu64 k.rm))) (fun k => by rw [k]; exact o2_ne _) ha hb (nomark _)
end
end Tw

set_option maxHeartbeats 2000000
namespace Tw
open PySem PySem.Spec L2
open PyProof.Rows hiding St
theorem look_val {G : Gc} {Z : Addr → Prop} {H : Hp} : ∀ {ks : List Str} {l : List D} {vs : List V} (x : Str), ks.length = vs.length → RepL G Z H l vs →
    match lookD ks l x with
    | some d => ∃ v, valV (sKeys ks vs) (Sum.inr x : Key) = some v ∧ Rep G Z H d v
    | none => valV (sKeys ks vs) (Sum.inr x : Key) = none
  | [], l, vs, x, e, r => by cases l <;> cases vs <;> simp_all [lookD, sKeys, valV]
  | k :: ks, l, [], x, e, r => by simp at e
  | k :: ks, [], v :: vs, x, e, r => by cases (show (v :: vs) = [] from r)
  | k :: ks, d :: l, v :: vs, x, e, r => by
    obtain ⟨v', r', e', r1, r2⟩ := r
    cases e'
    have ih := look_val (ks := ks) (l := l) (vs := vs) x (by simpa using e) r2
    by_cases q : x = k
    · subst q
      simp only [lookD, if_pos rfl, sKeys]
      exact ⟨v, valV_pos rfl, r1⟩
    · have q' : ¬ (Sum.inr k : Key) = Sum.inr x := fun z => q (Sum.inr.inj z).symm
      simp only [lookD, if_neg q, sKeys]
      rw [valV_neg q']
      exact ih
theorem look_fld {G : Gc} {Z : Addr → Prop} {H : Hp} : ∀ {ks : List Str} {l : List D} {vs : List V} (x : Str), ks.length = vs.length → RepL G Z H l vs →
    match lookD ks l x with
    | some d => ∃ v, (fKeys ks vs).lookup x = some v ∧ Rep G Z H d v
    | none => (fKeys ks vs).lookup x = none
  | [], l, vs, x, e, r => by cases l <;> cases vs <;> simp_all [lookD, fKeys]
  | k :: ks, l, [], x, e, r => by simp at e
  | k :: ks, [], v :: vs, x, e, r => by cases (show (v :: vs) = [] from r)
  | k :: ks, d :: l, v :: vs, x, e, r => by
    obtain ⟨v', r', e', r1, r2⟩ := r
    cases e'
    have ih := look_fld (ks := ks) (l := l) (vs := vs) x (by simpa using e) r2
    by_cases q : x = k
    · subst q
      simp only [lookD, if_pos rfl, fKeys, List.lookup_cons, beq_self_eq_true]
      exact ⟨v, rfl, r1⟩
    · have q' : (x == k) = false := beq_eq_false_iff_ne.mpr q
      simp only [lookD, if_neg q, fKeys, List.lookup_cons, q']
      exact ih
theorem isEmpty_sKeys {ks : List Str} {vs : List V} (e : ks.length = vs.length) : (sKeys ks vs).isEmpty = ks.isEmpty := by
  cases ks <;> cases vs <;> simp_all [sKeys]
theorem len_sKeys : ∀ {ks : List Str} {vs : List V}, ks.length = vs.length → (sKeys ks vs).length = ks.length
  | [], vs, e => by cases vs <;> simp_all [sKeys]
  | k :: ks, [], e => by simp at e
  | k :: ks, v :: vs, e => by
    have := len_sKeys (ks := ks) (vs := vs) (by simpa using e)
    simp [sKeys, this]
theorem len_fKeys : ∀ {ks : List Str} {vs : List V}, ks.length = vs.length → (fKeys ks vs).length = ks.length
  | [], vs, e => by cases vs <;> simp_all [fKeys]
  | k :: ks, [], e => by simp at e
  | k :: ks, v :: vs, e => by
    have := len_fKeys (ks := ks) (vs := vs) (by simpa using e)
    simp [fKeys, this]
theorem rep_flat {G : Gc} {Z : Addr → Prop} {H : Hp} {d : D} {v : V} (f : flatD d = true) (r : RepW G Z H d v) : flatV v = true ∧ ∀ e u, flatD e = true → RepW G Z H e u → eqV u v = deq e d := by
  cases d <;> simp only [flatD, Bool.false_eq_true] at f <;> obtain rfl : v = _ := r <;> refine ⟨rfl, fun e u fe re => ?_⟩ <;>
    (cases e <;> simp only [flatD, Bool.false_eq_true] at fe <;> obtain rfl : u = _ := re <;> simp only [eqV, deq])
theorem rep_flats {G : Gc} {Z : Addr → Prop} {H : Hp} {d : D} {v : V} (f : flatD d = true) (r : RepW G Z H d v) : ∀ {l : List D} {vs : List V}, l.all flatD = true → RepL G Z H l vs → vs.all flatV = true ∧ inV v vs = l.any fun y => deq y d
  | [], vs, _, h => by obtain rfl : vs = [] := h; simp [inV]
  | e :: l, vs, fl, h => by
    obtain ⟨u, w, rfl, r1, r2⟩ := h
    simp only [List.all_cons, Bool.and_eq_true] at fl
    obtain ⟨a, b⟩ := rep_flats f r fl.2 r2
    obtain ⟨c, k⟩ := rep_flat f r
    obtain ⟨c2, _⟩ := rep_flat fl.1 r1.w
    refine ⟨by simp only [List.all_cons, a, c2, Bool.and_self], ?_⟩
    unfold inV at b ⊢
    rw [List.any_cons, List.any_cons, b, k e u fl.1 r1.w]
theorem any_py {k : Nat} {d : D} (hd : shp k d = true) : ∀ {l : List D}, l.all (shp k) = true → ((toPyL l).any fun z => PyData.eqv z (toPy d)) = l.any fun y => deq y d
  | [], _ => rfl
  | e :: l, h => by
    simp only [List.all_cons, Bool.and_eq_true] at h
    simp only [toPyL, List.any_cons]
    rw [any_py hd h.2, deq_py k k e d h.1 hd]
section
variable {X : Cx} {Y : Cy} {a b c : Expr} {fa fb fc : DE} {pos : Pos}
def rInK : R2 := fun x y H Q => ∃ a kvs k, y = .ref a ∧ H a = some (.dK kvs) ∧ x = kV k ∧ Q (.bl (valV kvs k).isSome) H
def rNotInK : R2 := fun x y H Q => ∃ a kvs k, y = .ref a ∧ H a = some (.dK kvs) ∧ x = kV k ∧ Q (.bl (!(valV kvs k).isSome)) H
theorem op_in_dict {k : Nat} (hr : Room k X.A) : OpR X (compareOp .In) rInK := by
  intro pins s σ H x y v u Q I rx ry h
  obtain ⟨a, kvs, k, rfl, e, rfl, q⟩ := h
  cases ry
  exact d_in (hu_of hr) I (DGet.k e) rx fun s' I' => ⟨.bl _, H, I', rfl, q⟩
theorem op_notin_dict {k : Nat} (hr : Room k X.A) : OpR X (compareOp .NotIn) rNotInK := by
  intro pins s σ H x y v u Q I rx ry h
  obtain ⟨a, kvs, k, rfl, e, rfl, q⟩ := h
  cases ry
  exact d_notIn (hu_of hr) I (DGet.k e) rx fun s' I' => ⟨.bl _, H, I', rfl, q⟩
abbrev rSign : R2 := fun x y H Q => ∃ (c : Nat) (z : Str), x = .str ⟨#[c]⟩ ∧ y = .str z ∧ Q (.bl (decide (c ∈ z.cps.toList))) H
abbrev rNSign : R2 := fun x y H Q => ∃ (c : Nat) (z : Str), x = .str ⟨#[c]⟩ ∧ y = .str z ∧ Q (.bl (!decide (c ∈ z.cps.toList))) H
def rInA (K : PySem.W.Frag) : R2 := fun x y H Q => rSign x y H Q ∨ (rIn K false x y H Q ∨ (rInD K x y H Q ∨ rInK x y H Q))
def rNInA (K : PySem.W.Frag) : R2 := fun x y H Q => rNSign x y H Q ∨ (rIn K true x y H Q ∨ (rNotInD K x y H Q ∨ rNotInK x y H Q))
theorem str_one {s : Str} {c : Nat} (h : s.cps.toList = [c]) : s = ⟨#[c]⟩ := by
  obtain ⟨a⟩ := s
  have : a = #[c] := by
    have h' : a.toList = (#[c] : Array Nat).toList := h
    exact Array.toList_inj.mp h'
  rw [this]
/-- what `in` asks, as one fact -/
theorem in_fact {G : Gc} {Z : Addr → Prop} {H : Hp} {x y : V} {dx dy : D} {r : Bool} (rx : RepW G Z H dx x) (ry : RepW G Z H dy y) (h : inD dx dy = some r) :
    (∃ (c : Nat) (z : Str), x = .str ⟨#[c]⟩ ∧ y = .str z ∧ decide (c ∈ z.cps.toList) = r) ∨
    (∃ p xs, y = .ref p ∧ (SqL G.K H p xs ∨ SqT G.K H p xs) ∧ flatV x = true ∧ xs.all flatV = true ∧ inV x xs = r) ∨
    (∃ d ds, Dp G.K H x d ∧ Dp G.K H y (.list ds) ∧ SeqAt.shaped d = true ∧ SeqAt.shaped (.list ds) = true ∧ (ds.any fun z => PyData.eqv z d) = r) ∨
    (∃ a kvs k, y = .ref a ∧ H a = some (.dK kvs) ∧ x = kV k ∧ (valV kvs k).isSome = r) := by
  unfold inD at h
  split at h
  · split at h
    · rename_i t _ s
      obtain rfl : x = .str s := rx
      obtain rfl : y = .str t := ry
      obtain ⟨c, e, h⟩ := Option.map_eq_some_iff.mp h
      have e' : s.cps.toList = [c] := by
        unfold sgnD at e
        split at e
        · rename_i c' q
          rw [q, Option.some.inj e]
        · cases e
      exact .inl ⟨c, t, by rw [str_one e'], rfl, h⟩
    · cases h
  · rename_i l
    obtain ⟨p, vs, rfl, e, r2⟩ := ry
    split at h
    · rename_i hf
      obtain ⟨f1, f2⟩ := Bool.and_eq_true_iff.mp hf
      injection h with h
      obtain ⟨g1, g2⟩ := rep_flats f1 rx f2 r2
      exact .inr (.inl ⟨p, vs, rfl, .inl (SqL.of e), (rep_flat f1 rx).1, g1, g2.trans h⟩)
    · split at h
      · rename_i hf
        obtain ⟨f1, f2⟩ := Bool.and_eq_true_iff.mp hf
        injection h with h
        have f3 : ∀ x ∈ l, shp 60 x = true := fun x hx => List.all_eq_true.mp f2 x hx
        refine .inr (.inr (.inl ⟨_, toPyL l, repw_dp f1 rx, .lst (SqL.of e) (repL_dp 60 l vs f3 r2), shaped_py f1 (by decide), ?_, (any_py f1 f2).trans h⟩))
        exact shaped_py (k := 61) (d := .lst l) (by simpa [shp] using f3) (by decide)
      · cases h
  · rename_i l
    obtain ⟨p, vs, rfl, e, r2⟩ := rep_tup ry
    split at h
    · rename_i hf
      obtain ⟨f1, f2⟩ := Bool.and_eq_true_iff.mp hf
      injection h with h
      obtain ⟨g1, g2⟩ := rep_flats f1 rx f2 r2
      exact .inr (.inl ⟨p, vs, rfl, .inr e, (rep_flat f1 rx).1, g1, g2.trans h⟩)
    · cases h
  · rename_i ks l
    obtain ⟨p, vs, rfl, e, hl, r2⟩ := ry
    split at h
    · rename_i s
      obtain rfl : x = .str s := rx
      injection h with h
      refine .inr (.inr (.inr ⟨p, _, Sum.inr s, rfl, e, rfl, ?_⟩))
      have q := look_val s hl r2
      rw [← h]
      split at q
      · rename_i d e1
        obtain ⟨v, e2, _⟩ := q
        rw [e1, e2]
        rfl
      · rename_i e1
        rw [e1, q]
        rfl
    · cases h
  · cases h
theorem o2_in (G : Gc) : Op2 G (rInA G.K) oIn := by
  intro Z H x y dx dy Q zt rx ry h
  unfold oIn at h
  cases e : inD dx dy with
  | none => rw [e] at h; exact h.elim
  | some r =>
    rw [e] at h
    have hq : Q (.bl r) H := h _ H (Same.refl H) rfl
    rcases in_fact rx ry e with ⟨c, z, e1, e2, q⟩ | ⟨p, xs, e1, e2, e3, e4, q⟩ | ⟨d, ds, e1, e2, e3, e4, q⟩ | ⟨p, kvs, k, e1, e2, e3, q⟩
    · exact .inl ⟨c, z, e1, e2, by rw [q]; exact hq⟩
    · exact .inr (.inl ⟨p, xs, e1, e2, e3, e4, by rw [if_neg Bool.false_ne_true, q]; exact hq⟩)
    · exact .inr (.inr (.inl ⟨d, ds, e1, e2, e3, e4, by rw [q]; exact hq⟩))
    · exact .inr (.inr (.inr ⟨p, kvs, k, e1, e2, e3, by rw [q]; exact hq⟩))
theorem o2_notin (G : Gc) : Op2 G (rNInA G.K) oNotIn := by
  intro Z H x y dx dy Q zt rx ry h
  unfold oNotIn at h
  cases e : inD dx dy with
  | none => rw [e] at h; exact h.elim
  | some r =>
    rw [e] at h
    have hq : Q (.bl (!r)) H := h _ H (Same.refl H) rfl
    rcases in_fact rx ry e with ⟨c, z, e1, e2, q⟩ | ⟨p, xs, e1, e2, e3, e4, q⟩ | ⟨d, ds, e1, e2, e3, e4, q⟩ | ⟨p, kvs, k, e1, e2, e3, q⟩
    · exact .inl ⟨c, z, e1, e2, by rw [q]; exact hq⟩
    · exact .inr (.inl ⟨p, xs, e1, e2, e3, e4, by rw [if_pos rfl, q]; exact hq⟩)
    · exact .inr (.inr (.inl ⟨d, ds, e1, e2, e3, e4, by rw [q]; exact hq⟩))
    · exact .inr (.inr (.inr ⟨p, kvs, k, e1, e2, e3, by rw [q]; exact hq⟩))
theorem pd_in (ha : PDw X Y a fa) (hb : PDw X Y b fb) (hm : behindInMarks .In b = false := by rfl) : PD X Y (.Compare a [.In] [b] pos) (e2 oIn fa fb) :=
  pd_cmp (r := rInA X.K) (fun k => op_in_sign.or (op_in_seq.or ((op_inD (hu65 k.rm)).or (op_in_dict k.rm)))) (fun k => by rw [k]; exact o2_in _) ha hb hm
theorem pd_notin (ha : PDw X Y a fa) (hb : PDw X Y b fb) (hm : behindInMarks .NotIn b = false := by rfl) : PD X Y (.Compare a [.NotIn] [b] pos) (e2 oNotIn fa fb) :=
  pd_cmp (r := rNInA X.K) (fun k => op_notIn_sign.or (op_notIn_seq.or ((op_notInD (hu65 k.rm)).or (op_notin_dict k.rm)))) (fun k => by rw [k]; exact o2_notin _) ha hb hm
theorem rep_non {G : Gc} {Z : Addr → Prop} {H : Hp} {x : V} {dx : D} (rx : RepW G Z H dx x) : decide (x = .non) = isNonD dx := by
  cases dx with
  | non => obtain rfl : x = .non := rx; rfl
  | bl b => obtain rfl : x = .bl b := rx; rfl
  | int b => obtain rfl : x = .int b := rx; rfl
  | str b => obtain rfl : x = .str b := rx; rfl
  | cls b => obtain rfl : x = .ref _ := rx; rfl
  | gst b => exact False.elim rx
  | scr b => obtain ⟨a, rfl, _⟩ := rx; rfl
  | tup b => obtain ⟨a, _, rfl, _⟩ := rx; rfl
  | lst b => obtain ⟨a, _, rfl, _⟩ := rx; rfl
  | dct b c => obtain ⟨a, _, rfl, _⟩ := rx; rfl
  | obj b c d => obtain ⟨a, _, _, rfl, _⟩ := rx; rfl
theorem pd_isN {j : Nat} {p2 : Pos} (ha : PDw X Y a fa) : PD X Y (.Compare a [.Is] [.Constant .none j p2] pos) (e1 oIsN fa) := fun k => impPE (pe_cmp (pc_isN (ha k)) rfl) fun σ H Q h => by
  refine un_imp (r := fun x H1 Q => Q (.bl (decide (x = .non))) H1) (fun Z H x dx Q zt rx q => ?_) σ H Q h
  show Q (.bl (decide (x = .non))) H
  rw [rep_non rx]
  exact q _ H (Same.refl H) rfl
theorem pd_isNotN {j : Nat} {p2 : Pos} (ha : PDw X Y a fa) : PD X Y (.Compare a [.IsNot] [.Constant .none j p2] pos) (e1 oIsNotN fa) := fun k => impPE (pe_cmp (pc_notN (ha k)) rfl) fun σ H Q h => by
  refine un_imp (r := fun x H1 Q => Q (.bl (!decide (x = .non))) H1) (fun Z H x dx Q zt rx q => ?_) σ H Q h
  show Q (.bl (!decide (x = .non))) H
  rw [rep_non rx]
  exact q _ H (Same.refl H) rfl
end
end Tw

set_option maxHeartbeats 2000000
namespace Tw
open PySem PySem.Spec L2
open PyProof.Rows hiding St
theorem orPE {X : Cx} {e : Expr} {t u : TE} (h : PE X e t) (k : PE X e u) : PE X e (fun σ H Q => t σ H Q ∨ u σ H Q) := ⟨fun pins s σ H Q I q => q.elim (h.run pins s σ H Q I) (k.run pins s σ H Q I)⟩
theorem atD_rep {G : Gc} {Z : Addr → Prop} {H : Hp} {l : List D} {vs : List V} {i : Int} {d : D} (r : RepL G Z H l vs) (h : atD l i = some d) : ∃ v, atI vs i = some v ∧ Rep G Z H d v := by
  have e := r.length
  unfold atD at h
  unfold atI ixN
  split at h
  · rename_i h0
    obtain ⟨v, e1, r1⟩ := r.get h
    have hl : i.toNat < vs.length := (List.getElem?_eq_some_iff.mp e1).1
    refine ⟨v, ?_, r1⟩
    rw [if_pos h0, if_pos (by omega)]
    exact e1
  · rename_i h0
    split at h
    · rename_i h1
      obtain ⟨v, e1, r1⟩ := r.get h
      refine ⟨v, ?_, r1⟩
      rw [if_neg h0, if_pos (by omega), ← e]
      exact e1
    · cases h
theorem atD_map {α β : Type} (f : α → β) (l : List α) (i : Int) : atD (l.map f) i = (atD l i).map f := by
  unfold atD
  rw [List.length_map]
  split
  · rw [List.getElem?_map]
  · split
    · rw [List.getElem?_map]
    · rfl
theorem atI_eq {α : Type} (l : List α) (i : Int) : atI l i = atD l i := by
  unfold atD atI ixN
  split
  · rename_i h0
    by_cases h : i < l.length
    · rw [if_pos h]; rfl
    · rw [if_neg h]
      have : l.length ≤ i.toNat := by omega
      rw [List.getElem?_eq_none this]
      rfl
  · split <;> rfl
section
variable {X : Cx} {Y : Cy} {a b c e : Expr} {fa fb fc : DE} {pos p2 : Pos}
theorem o2_ix (G : Gc) (Z : Addr → Prop) (H : Hp) (x y : V) (dx dy : D) (Q : VK) (zt : ∀ a, Z a → H a ≠ none) (rx : RepW G Z H dx x) (ry : RepW G Z H dy y) (h : OPost G Z H Q (oIx dx dy)) :
    (∀ ks l, dx ≠ .dct ks l) → rIx G.K x y H Q := by
  intro hd
  unfold oIx at h
  split at h
  · rename_i l i
    obtain ⟨p, vs, rfl, hp, r1⟩ := rx
    cases e : atD l i with
    | none => rw [e] at h; exact h.elim
    | some d =>
      rw [e] at h
      obtain ⟨v, e1, e2⟩ := atD_rep r1 e
      exact .inl ⟨p, vs, i, v, rfl, ry, SqL.of hp, e1, h _ H (Same.refl H) e2⟩
  · rename_i l i
    obtain ⟨p, vs, rfl, hp, r1⟩ := rep_tup rx
    cases e : atD l i with
    | none => rw [e] at h; exact h.elim
    | some d =>
      rw [e] at h
      obtain ⟨v, e1, e2⟩ := atD_rep r1 e
      exact .inr (.inl ⟨p, vs, i, v, rfl, ry, hp, e1, h _ H (Same.refl H) e2⟩)
  · rename_i l i
    obtain ⟨p, rfl, hp⟩ := rep_scr rx
    cases e : atD l i with
    | none => rw [e] at h; exact h.elim
    | some d =>
      rw [e] at h
      refine .inl ⟨p, _, i, .int d, rfl, ry, hp, ?_, h _ H (Same.refl H) rfl⟩
      rw [atI_eq, atD_map, e]
      rfl
  · rename_i s i
    split at h
    · rename_i hl
      cases e : atD s.cps.toList i with
      | none => rw [e] at h; exact h.elim
      | some d =>
        rw [e] at h
        exact .inr (.inr ⟨s, i, d, rx, ry, by rw [lineD_eq]; exact hl, by rw [atI_eq]; exact e, h _ H (Same.refl H) rfl⟩)
    · exact h.elim
  · exact absurd rfl (hd _ _)
  · exact h.elim
theorem o2_ixd (G : Gc) (Z : Addr → Prop) (H : Hp) (x y : V) (ks : List Str) (l : List D) (dy : D) (Q : VK) (rx : RepW G Z H (.dct ks l) x) (ry : RepW G Z H dy y) (h : OPost G Z H Q (oIx (.dct ks l) dy)) :
    ∃ a v, x = .ref a ∧ DGet H a y (some v) ∧ Q v H := by
  cases dy with
  | str s =>
    obtain ⟨p, vs, rfl, hp, hl, r1⟩ := rx
    obtain rfl : y = .str s := ry
    have q := look_val s hl r1
    simp only [oIx] at h
    cases e : lookD ks l s with
    | none => rw [e] at h; exact h.elim
    | some d =>
      rw [e] at h q
      obtain ⟨v, e1, e2⟩ := q
      refine ⟨p, v, rfl, ?_, h _ H (Same.refl H) e2⟩
      rw [← e1]
      exact DGet.k (k := Sum.inr s) hp
  | _ => exact h.elim
theorem pd_ix (ha : PDw X Y a fa) (hb : PDw X Y b fb) (hs : PlainIx b := by intro _ _; rfl) : PD X Y (.Subscript a b pos) (e2 oIx fa fb) := fun k => by
  refine impPE (orPE (pe_ix ix_seq (ha k) (hb k) hs) (pe_dget (hu_of k.rm) (ha k) (hb k) hs)) fun σ H Q h => ?_
  obtain ⟨O, ρ, s, q⟩ := h
  unfold e2 at q
  cases ea : fa ρ with
  | ex e => rw [ea] at q; exact .inl ⟨O, ρ, s, by rw [ea]; exact q⟩
  | no => rw [ea] at q; exact q.elim
  | ok dx =>
    rw [ea] at q
    simp only [R.bind_ok] at q
    by_cases hd : ∃ ks l, dx = .dct ks l
    · obtain ⟨ks, l, rfl⟩ := hd
      refine .inr ⟨O, ρ, s, ?_⟩
      rw [ea]
      intro x H1 s1 rx
      refine ⟨O, ρ, s.same s1, ?_⟩
      cases eb : fb ρ with
      | ex e => rw [eb] at q; exact ex_fwd s1 q
      | no => rw [eb] at q; exact q
      | ok dy =>
        rw [eb] at q
        simp only [R.bind_ok] at q
        intro y H2 s2 ry
        refine o2_ixd Y.G _ H2 x y ks l dy Q (rx.same s2) ry ?_
        cases eg : oIx (.dct ks l) dy with
        | none => rw [eg] at q; exact q
        | some d => rw [eg] at q; exact fun v H3 s3 rv => q v H3 (s1.trans (s2.trans s3)) rv
    · refine .inl ⟨O, ρ, s, ?_⟩
      rw [ea]
      intro x H1 s1 rx
      refine ⟨O, ρ, s.same s1, ?_⟩
      cases eb : fb ρ with
      | ex e => rw [eb] at q; exact ex_fwd s1 q
      | no => rw [eb] at q; exact q
      | ok dy =>
        rw [eb] at q
        simp only [R.bind_ok] at q
        intro y H2 s2 ry
        rw [k.K]
        refine o2_ix Y.G _ H2 x y dx dy Q ((s.same (s1.trans s2)).zt) (rx.same s2) ry ?_ fun ks l z => hd ⟨ks, l, z⟩
        cases eg : oIx dx dy with
        | none => rw [eg] at q; exact q
        | some d => rw [eg] at q; exact fun v H3 s3 rv => q v H3 (s1.trans (s2.trans s3)) rv
theorem lookD_mem : ∀ {ks : List Str} {l : List D} {f : Str} {d : D}, lookD ks l f = some d → f ∈ ks
  | [], l, f, d, h => by cases l <;> simp [lookD] at h
  | k :: ks, [], f, d, h => by simp [lookD] at h
  | k :: ks, d' :: l, f, d, h => by
    simp only [lookD] at h
    by_cases q : f = k
    · rw [q]; exact List.mem_cons_self
    · rw [if_neg q] at h; exact List.mem_cons_of_mem _ (lookD_mem h)
theorem pd_fld {f : Str} (ha : PDw X Y a fa) (hb : attributeBase a f X.env (eval a X.env) = eval a X.env := by rfl) : PD X Y (.Attribute a f pos) (e1 (oFld f) fa) := fun k => by
  refine impPE (pe_fld (ha k) hb) fun σ H Q h => ?_
  refine un_imp (r := fun x H1 Q => ∃ a C dx fs v, x = .ref a ∧ H1 a = some (.ins C dx fs) ∧ Cls X.K C ∧ NoAttr X.K C f ∧ fs.lookup f = some v ∧ Q v H1) (fun Z H x dx Q zt rx q => ?_) σ H Q h
  unfold oFld at q
  split at q
  · rename_i c ks l
    obtain ⟨p, dx, vs, rfl, hp, ⟨hl, hc, hf⟩, r1⟩ := rx
    have w := look_fld f hl r1
    cases e : lookD ks l f with
    | none => rw [e] at q; exact q.elim
    | some d =>
      rw [e] at q w
      obtain ⟨v, e1, e2⟩ := w
      have hin : f ∈ ks := lookD_mem e
      rw [k.K]
      exact ⟨p, Y.G.cm c, dx, _, v, rfl, hp, Y.G.cls c hc, Y.G.noat c f hc (hf f hin), e1, q _ H (Same.refl H) e2⟩
  · exact q.elim
def XPost (Y : Cy) (O : Addr → Prop) (σ : L2.St) (H : Hp) (Q : Option Int → Hp → Prop) : R (Option Int) → Prop
  | .ok d => ∀ H', Same H H' → Q d H'
  | .ex e => ∀ c od H', Same H H' → ExRep Y.G (Zo Y.Ze O) H' e c od → Y.E c od σ H'
  | .no => False
def tDX (Y : Cy) (f : DO) : TO := fun σ H Q => ∃ O ρ, SR Y O ρ σ H ∧ XPost Y O σ H Q (f ρ)
def PDX (X : Cx) (Y : Cy) (e : Option Expr) (f : DO) : Prop := Lk X Y → PO X e (tDX Y f)
theorem impPO {X : Cx} {e : Option Expr} {t t' : TO} (h : PO X e t) (i : ∀ σ H Q, t' σ H Q → t σ H Q) : PO X e t' := ⟨fun pins s σ H Q I q => h.run pins s σ H Q I (i σ H Q q)⟩
theorem px_none : PDX X Y none xNone := fun k => impPO po_none fun σ H Q ⟨O, ρ, s, q⟩ => q H (Same.refl H)
theorem px_some (ha : PDw X Y a fa) : PDX X Y (some a) (xSome fa) := fun k => impPO (po_some (ha k)) fun σ H Q ⟨O, ρ, s, q⟩ => by
  refine ⟨O, ρ, s, ?_⟩
  unfold xSome at q
  cases ea : fa ρ with
  | ex e => rw [ea] at q; exact q
  | no => rw [ea] at q; exact q
  | ok dx =>
    rw [ea] at q
    intro x H1 s1 rx
    cases dx with
    | int i => exact ⟨i, rx, q H1 s1⟩
    | _ => exact q.elim
theorem sIx_eq (n d : Nat) (o : Option Int) : HT.sIx n d o = sIxD n d o := by cases o <;> rfl
theorem cutV_rep {G : Gc} {Z : Addr → Prop} {H : Hp} {l : List D} {vs : List V} (r : RepL G Z H l vs) (lo hi : Option Int) : RepL G Z H (cutD l lo hi) (cutV vs lo hi) := by
  unfold cutD cutV
  simp only [sIx_eq, r.length]
  exact (r.drop _).take _
theorem o_sl (G : Gc) (Z : Addr → Prop) (H : Hp) (x : V) (lo hi : Option Int) (dx : D) (Q : VK) (zt : ∀ a, Z a → H a ≠ none) (rx : RepW G Z H dx x) (h : OPost G Z H Q (oSl lo hi dx)) :
    rSlL G.K x lo hi H Q ∨ (rSlA G.K x lo hi H Q ∨ rSlS x lo hi H Q) := by
  unfold oSl at h
  split at h
  · rename_i l
    obtain ⟨p, vs, rfl, hp, r1⟩ := rx
    exact .inl ⟨p, vs, rfl, SqL.of hp, fun n hn => h _ _ (same_new hn) ⟨n, _, rfl, fun z => zt n z hn, upd_same, (cutV_rep r1 lo hi).same (same_new hn)⟩⟩
  · rename_i l
    have rx' := rx
    obtain ⟨p, vs, rfl, hp, r1⟩ := rep_tup rx
    refine .inr (.inl ⟨p, vs, rfl, hp, fun w => ?_, fun w n hn => h _ _ (same_new hn) ⟨n, _, rfl, .inl ⟨fun z => zt n z hn, upd_same⟩, (cutV_rep r1 lo hi).same (same_new hn)⟩⟩)
    have e : cutD l lo hi = l := by
      unfold cutD
      simp only [sIx_eq, ← r1.length] at w
      rw [w.1, w.2]
      simp
    rw [e] at h
    exact h _ H (Same.refl H) rx'
  · rename_i s
    split at h
    · rename_i hl
      refine .inr (.inr ⟨s, rx, by rw [lineD_eq]; exact hl, ?_⟩)
      have e : cutS s lo hi = ⟨(cutD s.cps.toList lo hi).toArray⟩ := by
        unfold cutS cutD
        simp only [sIx_eq]
        rfl
      rw [e]
      exact h _ H (Same.refl H) rfl
    · exact h.elim
  · exact h.elim
theorem pd_slice {lo hi : Option Expr} {fl fh : DO} (ha : PDw X Y a fa) (hl : PDX X Y lo fl) (hh : PDX X Y hi fh) : PD X Y (.Subscript a (.Slice lo hi none p2) pos) (eSl fa fl fh) := fun k => by
  refine impPE (pe_slice (sl_list.or (sl_tupA.or sl_str)) (ha k) (hl k) (hh k)) fun σ H Q h => ?_
  obtain ⟨O, ρ, s, q⟩ := h
  refine ⟨O, ρ, s, ?_⟩
  unfold eSl at q
  cases ea : fa ρ with
  | ex e => rw [ea] at q; exact q
  | no => rw [ea] at q; exact q
  | ok dx =>
    rw [ea] at q
    simp only [R.bind_ok] at q
    intro x H1 s1 rx
    refine ⟨O, ρ, s.same s1, ?_⟩
    cases eb : fl ρ with
    | ex e => rw [eb] at q; exact ex_fwd s1 q
    | no => rw [eb] at q; exact q
    | ok lo' =>
      rw [eb] at q
      simp only [R.bind_ok] at q
      intro H2 s2
      refine ⟨O, ρ, (s.same s1).same s2, ?_⟩
      cases ec : fh ρ with
      | ex e => rw [ec] at q; exact ex_fwd (s1.trans s2) q
      | no => rw [ec] at q; exact q
      | ok hi' =>
        rw [ec] at q
        simp only [R.bind_ok] at q
        intro H3 s3
        have s13 := s1.trans (s2.trans s3)
        rw [k.K]
        refine o_sl Y.G _ H3 x lo' hi' dx Q ((s.same s13).zt) (rx.same (s2.trans s3)) ?_
        cases eg : oSl lo' hi' dx with
        | none => rw [eg] at q; exact q
        | some d => rw [eg] at q; exact fun v H4 s4 rv => q v H4 (s13.trans s4) rv
theorem da_nil : PDA X Y [] aNil := fun k => impPA pa_nil fun σ H Q ⟨O, ρ, s, q⟩ => q [] H (Same.refl H) rfl
theorem da_cons {es : List Expr} {fs : DA} (ha : PD X Y a fa) (hr : PDA X Y es fs) (hs : starEach (a :: es) X.env = (false, eval a X.env) :: starEach es X.env := by rfl) : PDA X Y (a :: es) (aCons fa fs) := fun k => impPA (pa_cons (ha k) (hr k) hs) fun σ H Q ⟨O, ρ, s, q⟩ => by
  refine ⟨O, ρ, s, ?_⟩
  unfold aCons at q
  cases ea : fa ρ with
  | ex e => rw [ea] at q; exact q
  | no => rw [ea] at q; exact q
  | ok dx =>
    rw [ea] at q
    simp only [R.bind_ok] at q
    intro x H1 s1 rx
    refine ⟨O, ρ, s.same s1, ?_⟩
    cases eb : fs ρ with
    | ex e => rw [eb] at q; exact ex_fwd s1 q
    | no => rw [eb] at q; exact q
    | ok ds =>
      rw [eb] at q
      intro vs H2 s2 rs
      exact q _ H2 (s1.trans s2) (RepL.cons (rx.same s2) rs)
theorem arg_imp {fs : DA} {g : List D → Option D} {r : List V → Hp → VK → Prop} (ho : ∀ Z H vs ds Q, (∀ a, Z a → H a ≠ none) → RepL Y.G Z H ds vs → OPost Y.G Z H Q (g ds) → r vs H Q) (σ : L2.St) (H : Hp) (Q : VK)
    (h : tD Y (fun ρ => (fs ρ).bind fun xs => R.of (g xs)) σ H Q) : tDA Y fs σ H (fun vs H1 => r vs H1 Q) := by
  obtain ⟨O, ρ, s, q⟩ := h
  refine ⟨O, ρ, s, ?_⟩
  have q : EPost Y O σ H Q ((fs ρ).bind fun xs => R.of (g xs)) := q
  cases ea : fs ρ with
  | ex e => rw [ea] at q; exact q
  | no => rw [ea] at q; exact q
  | ok ds =>
    rw [ea] at q
    simp only [R.bind_ok] at q
    intro vs H1 s1 rs
    refine ho _ H1 vs ds Q ((s.same s1).zt) rs ?_
    cases eg : g ds with
    | none => rw [eg] at q; exact q
    | some d => rw [eg] at q; exact fun v H4 s4 rv => q v H4 (s1.trans s4) rv
theorem eTup_of (fs : DA) : eTup fs = fun ρ => (fs ρ).bind fun xs => R.of (if xs.length ≤ lineD then some (.tup xs) else none) := by
  funext ρ
  unfold eTup
  congr 1
  funext xs
  split <;> rfl
theorem eLst_of (fs : DA) : eLst fs = fun ρ => (fs ρ).bind fun xs => R.of (if xs.length ≤ lineD then some (.lst xs) else none) := by
  funext ρ
  unfold eLst
  congr 1
  funext xs
  split <;> rfl
theorem pd_tup {es : List Expr} {fs : DA} {x1 : Nat} (ha : PDA X Y es fs) : PD X Y (.Tuple es x1 pos) (eTup fs) := fun k => by
  rw [eTup_of]
  refine impPE (pe_tup (ha k)) fun σ H Q h => arg_imp (r := fun xs H1 Q => xs.length ≤ sizeLine ∧ ∀ p, H1 p = none → Q (.ref p) (upd H1 p (.tup xs))) (fun Z H vs ds Q zt rs q => ?_) σ H Q h
  split at q
  · rename_i hl
    exact ⟨by rw [lineD_eq, ← rs.length]; exact hl, fun n hn => q _ _ (same_new hn) ⟨n, _, rfl, .inl ⟨fun z => zt n z hn, upd_same⟩, rs.same (same_new hn)⟩⟩
  · exact q.elim
theorem pd_lst {es : List Expr} {fs : DA} (ha : PDA X Y es fs) : PD X Y (.List es pos) (eLst fs) := fun k => by
  rw [eLst_of]
  refine impPE (pe_lst (ha k)) fun σ H Q h => arg_imp (r := fun xs H1 Q => xs.length ≤ sizeLine ∧ ∀ p, H1 p = none → Q (.ref p) (upd H1 p (.lst xs))) (fun Z H vs ds Q zt rs q => ?_) σ H Q h
  split at q
  · rename_i hl
    exact ⟨by rw [lineD_eq, ← rs.length]; exact hl, fun n hn => q _ _ (same_new hn) ⟨n, _, rfl, fun z => zt n z hn, upd_same, rs.same (same_new hn)⟩⟩
  · exact q.elim
theorem pd_dict0 : PD X Y (.Dict [] [] pos) (eC (.dct [] [])) := fun k => impPE pe_dnewK fun σ H Q ⟨O, ρ, s, q⟩ n hn =>
  q _ _ (same_new hn) ⟨n, [], rfl, fun z => s.zt n z hn, upd_same, rfl, rfl⟩
end
end Tw

set_option maxHeartbeats 2000000
namespace Tw
open PySem PySem.Spec L2
open PyProof.Rows hiding St
section
variable {X : Cx} {Y : Cy} {a b c e : Expr} {fa fb fc : DE} {pos p p2 : Pos} {x : Str} {id T : String}
def Cb1 (G : Gc) (r : List V → Hp → VK → Prop) (g : D → Option D) : Prop := ∀ (Z : Addr → Prop) (H : Hp) (x : V) (dx : D) (Q : VK), (∀ a, Z a → H a ≠ none) → RepW G Z H dx x → OPost G Z H Q (g dx) → r [x] H Q
def Cb2 (G : Gc) (r : List V → Hp → VK → Prop) (g : D → D → Option D) : Prop := ∀ (Z : Addr → Prop) (H : Hp) (x y : V) (dx dy : D) (Q : VK), (∀ a, Z a → H a ≠ none) → RepW G Z H dx x → RepW G Z H dy y → OPost G Z H Q (g dx dy) → r [x, y] H Q
theorem CallR.or {f : Value} {r r' : List V → Hp → VK → Prop} (h : CallR X f r) (h' : CallR X f r') : CallR X f (fun xs H Q => r xs H Q ∨ r' xs H Q) := by
  intro pins s σ H xs us Q I rx q
  rcases q with q | q
  · exact h pins s σ H xs us Q I rx q
  · exact h' pins s σ H xs us Q I rx q
theorem pd_b1 {r : List V → Hp → VK → Prop} {g : D → Option D} (hc : Lk X Y → CallR X (.builtin id) r) (ho : X.K = Y.G.K → Cb1 Y.G r g) (hv : bootBuiltins x = some (.builtin id)) (hg : Gl X x) (hm : X.mg x = none) (ha : PDw X Y a fa) (hn : x ≠ "__name__" := by decide) (hdb : (x == ("__debug__" : Str)) = false := by decide)
    (hs : starEach (a :: []) X.env = (false, eval a X.env) :: starEach [] X.env := by rfl) (hpl : (backTo pos (starEach [] X.env)).any (·.1) = false := by rfl) :
    PD X Y (.Call (.Name x p) [a] [] pos) (e1 g fa) := fun k => by
  refine impPE (pe_callB (hc k) hg hm hv (pa_cons (ha k) pa_nil hs) hn hdb (he := hs) (hpl := hpl)) fun σ H Q h => ?_
  exact un_imp (r := fun x H1 Q => r [x] H1 Q) (fun Z H x dx Q zt rx q => ho k.K Z H x dx Q zt rx q) σ H Q h
theorem pd_t1 {r : List V → Hp → VK → Prop} {g : D → Option D} (hc : Lk X Y → CallR X (.type T) r) (ho : X.K = Y.G.K → Cb1 Y.G r g) (hv : bootBuiltins x = some (.type T)) (hg : Gl X x) (hm : X.mg x = none) (ha : PDw X Y a fa) (hn : x ≠ "__name__" := by decide) (hdb : (x == ("__debug__" : Str)) = false := by decide)
    (hs : starEach (a :: []) X.env = (false, eval a X.env) :: starEach [] X.env := by rfl) (hpl : (backTo pos (starEach [] X.env)).any (·.1) = false := by rfl) :
    PD X Y (.Call (.Name x p) [a] [] pos) (e1 g fa) := fun k => by
  refine impPE (pe_callTy (hc k) hg hm hv (pa_cons (ha k) pa_nil hs) hn hdb (he := hs) (hpl := hpl)) fun σ H Q h => ?_
  exact un_imp (r := fun x H1 Q => r [x] H1 Q) (fun Z H x dx Q zt rx q => ho k.K Z H x dx Q zt rx q) σ H Q h
theorem pd_b2 {r : List V → Hp → VK → Prop} {g : D → D → Option D} (hc : Lk X Y → CallR X (.builtin id) r) (ho : X.K = Y.G.K → Cb2 Y.G r g) (hv : bootBuiltins x = some (.builtin id)) (hg : Gl X x) (hm : X.mg x = none) (ha : PDw X Y a fa) (hb : PDw X Y b fb) (hn : x ≠ "__name__" := by decide) (hdb : (x == ("__debug__" : Str)) = false := by decide)
    (hs : starEach (a :: [b]) X.env = (false, eval a X.env) :: starEach [b] X.env := by rfl) (hs2 : starEach (b :: []) X.env = (false, eval b X.env) :: starEach [] X.env := by rfl) (hpl : (backTo pos (starEach [b] X.env)).any (·.1) = false := by rfl) :
    PD X Y (.Call (.Name x p) [a, b] [] pos) (e2 g fa fb) := fun k => by
  refine impPE (pe_callB (hc k) hg hm hv (pa_cons (ha k) (pa_cons (hb k) pa_nil hs2) hs) hn hdb (he := hs) (hpl := hpl)) fun σ H Q h => ?_
  exact bin_imp (r := fun x y H1 Q => r [x, y] H1 Q) (fun Z H x y dx dy Q zt rx ry q => ho k.K Z H x y dx dy Q zt rx ry q) σ H Q h
theorem cb_len (G : Gc) : Cb1 G (fun xs H Q => ∃ x n, xs = [x] ∧ LenV G.K x H n ∧ Q (.int n) H) oLen := by
  intro Z H x dx Q zt rx q
  unfold oLen at q
  split at q
  · obtain ⟨p, vs, rfl, hp, r1⟩ := rx
    exact ⟨_, vs.length, rfl, .inl ⟨vs, SqL.of hp, rfl⟩, by rw [← r1.length]; exact q _ H (Same.refl H) rfl⟩
  · obtain ⟨p, vs, rfl, hp, r1⟩ := rep_tup rx
    exact ⟨_, vs.length, rfl, .inr ⟨vs, hp, rfl⟩, by rw [← r1.length]; exact q _ H (Same.refl H) rfl⟩
  · rename_i l
    obtain ⟨p, rfl, hp⟩ := rep_scr rx
    exact ⟨_, (l.map V.int).length, rfl, .inl ⟨_, hp, rfl⟩, by rw [List.length_map]; exact q _ H (Same.refl H) rfl⟩
  · rename_i s
    split at q
    · rename_i hl
      obtain rfl : x = .str s := rx
      exact ⟨_, s.length, rfl, ⟨by rw [lineD_eq]; exact hl, rfl⟩, q _ H (Same.refl H) rfl⟩
    · exact q.elim
  · exact q.elim
theorem pd_len (hg : Gl X "len") (hm : X.mg "len" = none) (ha : PDw X Y a fa) (hs : starEach (a :: []) X.env = (false, eval a X.env) :: starEach [] X.env := by rfl) : PD X Y (.Call (.Name "len" p) [a] [] pos) (e1 oLen fa) :=
  pd_b1 (fun _ => call_len) (fun k => by rw [k]; exact cb_len _) PySem.boot_len hg hm ha (hs := hs)
theorem pd_int' (hg : Gl X "int") (hm : X.mg "int" = none) (ha : PDw X Y a fa) (hs : starEach (a :: []) X.env = (false, eval a X.env) :: starEach [] X.env := by rfl) : PD X Y (.Call (.Name "int" p) [a] [] pos) (e1 oInt fa) :=
  pd_t1 (fun _ => call_int1) (fun k Z H x dx Q zt rx q => by
    unfold oInt at q
    split at q
    · exact .inl ⟨_, by rw [show x = _ from rx], q _ H (Same.refl H) rfl⟩
    · exact .inr ⟨_, by rw [show x = _ from rx], q _ H (Same.refl H) rfl⟩
    · exact q.elim) (by decide +kernel) hg hm ha (hs := hs)
theorem pd_abs (hg : Gl X "abs") (hm : X.mg "abs" = none) (ha : PDw X Y a fa) (hs : starEach (a :: []) X.env = (false, eval a X.env) :: starEach [] X.env := by rfl) : PD X Y (.Call (.Name "abs" p) [a] [] pos) (e1 oAbs fa) :=
  pd_b1 (fun _ => call_abs) (fun k Z H x dx Q zt rx q => by
    unfold oAbs at q
    split at q
    · exact ⟨_, by rw [show x = _ from rx], q _ H (Same.refl H) rfl⟩
    · exact q.elim) (by decide +kernel) hg hm ha (hs := hs)
theorem intsD_rep {G : Gc} {Z : Addr → Prop} {H : Hp} : ∀ {l : List D} {vs : List V} {ns : List Int}, RepL G Z H l vs → intsD l = some ns → vs = ns.map V.int
  | [], vs, ns, r, h => by
    cases h
    exact r
  | d :: l, vs, ns, r, h => by
    obtain ⟨v, w, rfl, r1, r2⟩ := r
    cases d with
    | int i =>
      obtain ⟨ms, e1, e2⟩ := Option.map_eq_some_iff.mp h
      subst e2
      rw [List.map_cons, ← intsD_rep r2 e1, show v = .int i from r1]
    | _ => cases h
theorem blsD_rep {G : Gc} {Z : Addr → Prop} {H : Hp} : ∀ {l : List D} {vs : List V} {ns : List Bool}, RepL G Z H l vs → blsD l = some ns → vs = ns.map V.bl
  | [], vs, ns, r, h => by
    cases h
    exact r
  | d :: l, vs, ns, r, h => by
    obtain ⟨v, w, rfl, r1, r2⟩ := r
    cases d with
    | bl i =>
      obtain ⟨ms, e1, e2⟩ := Option.map_eq_some_iff.mp h
      subst e2
      rw [List.map_cons, ← blsD_rep r2 e1, show v = .bl i from r1]
    | _ => cases h
theorem pd_sum (hg : Gl X "sum") (hm : X.mg "sum" = none) (ha : PDw X Y a fa) (hs : starEach (a :: []) X.env = (false, eval a X.env) :: starEach [] X.env := by rfl) : PD X Y (.Call (.Name "sum" p) [a] [] pos) (e1 oSum fa) :=
  pd_b1 (fun k => cr_sum k.calm) (fun k Z H x dx Q zt rx q => by
    rw [k]
    unfold oSum at q
    split at q
    · rename_i l
      obtain ⟨p, vs, rfl, hp, r1⟩ := rx
      cases e : intsD l with
      | none => rw [e] at q; exact q.elim
      | some ns =>
        rw [e] at q
        rw [intsD_rep r1 e] at hp
        exact ⟨p, ns, rfl, SqL.of hp, q _ H (Same.refl H) rfl⟩
    · rename_i l
      obtain ⟨p, rfl, hp⟩ := rep_scr rx
      exact ⟨p, l, rfl, hp, q _ H (Same.refl H) rfl⟩
    · exact q.elim) (by decide +kernel) hg hm ha (hs := hs)
theorem pd_all (hg : Gl X "all") (hm : X.mg "all" = none) (ha : PDw X Y a fa) (hs : starEach (a :: []) X.env = (false, eval a X.env) :: starEach [] X.env := by rfl) : PD X Y (.Call (.Name "all" p) [a] [] pos) (e1 oAll fa) :=
  pd_b1 (fun k => cr_all k.calm) (fun k Z H x dx Q zt rx q => by
    rw [k]
    unfold oAll at q
    split at q
    · rename_i l
      obtain ⟨p, vs, rfl, hp, r1⟩ := rx
      cases e : blsD l with
      | none => rw [e] at q; exact q.elim
      | some ns =>
        rw [e] at q
        rw [blsD_rep r1 e] at hp
        exact ⟨p, ns, rfl, SqL.of hp, q _ H (Same.refl H) rfl⟩
    · exact q.elim) (by decide +kernel) hg hm ha (hs := hs)
theorem pd_any (hg : Gl X "any") (hm : X.mg "any" = none) (ha : PDw X Y a fa) (hs : starEach (a :: []) X.env = (false, eval a X.env) :: starEach [] X.env := by rfl) : PD X Y (.Call (.Name "any" p) [a] [] pos) (e1 oAny fa) :=
  pd_b1 (fun k => cr_any k.calm) (fun k Z H x dx Q zt rx q => by
    rw [k]
    unfold oAny at q
    split at q
    · rename_i l
      obtain ⟨p, vs, rfl, hp, r1⟩ := rx
      cases e : blsD l with
      | none => rw [e] at q; exact q.elim
      | some ns =>
        rw [e] at q
        rw [blsD_rep r1 e] at hp
        exact ⟨p, ns, rfl, SqL.of hp, q _ H (Same.refl H) rfl⟩
    · exact q.elim) (by decide +kernel) hg hm ha (hs := hs)
theorem pd_max (hg : Gl X "max") (hm : X.mg "max" = none) (ha : PDw X Y a fa) (hb : PDw X Y b fb) (hs : starEach (a :: [b]) X.env = (false, eval a X.env) :: starEach [b] X.env := by rfl) (hs2 : starEach (b :: []) X.env = (false, eval b X.env) :: starEach [] X.env := by rfl) (hpl : (backTo pos (starEach [b] X.env)).any (·.1) = false := by rfl) : PD X Y (.Call (.Name "max" p) [a, b] [] pos) (e2 oMax fa fb) :=
  pd_b2 (fun k => call_max2 k.calm) (fun k Z H x y dx dy Q zt rx ry q => by
    unfold oMax at q
    split at q
    · exact ⟨_, _, by rw [show x = _ from rx, show y = _ from ry], q _ H (Same.refl H) rfl⟩
    · exact q.elim) (by decide +kernel) hg hm ha hb (hs := hs) (hs2 := hs2) (hpl := hpl)
theorem pd_min (hg : Gl X "min") (hm : X.mg "min" = none) (ha : PDw X Y a fa) (hb : PDw X Y b fb) (hs : starEach (a :: [b]) X.env = (false, eval a X.env) :: starEach [b] X.env := by rfl) (hs2 : starEach (b :: []) X.env = (false, eval b X.env) :: starEach [] X.env := by rfl) (hpl : (backTo pos (starEach [b] X.env)).any (·.1) = false := by rfl) : PD X Y (.Call (.Name "min" p) [a, b] [] pos) (e2 oMin fa fb) :=
  pd_b2 (fun k => call_min2 k.calm) (fun k Z H x y dx dy Q zt rx ry q => by
    unfold oMin at q
    split at q
    · exact ⟨_, _, by rw [show x = _ from rx, show y = _ from ry], q _ H (Same.refl H) rfl⟩
    · exact q.elim) (by decide +kernel) hg hm ha hb (hs := hs) (hs2 := hs2) (hpl := hpl)
theorem pd_list (hg : Gl X "list") (hm : X.mg "list" = none) (ha : PDw X Y a fa) (hs : starEach (a :: []) X.env = (false, eval a X.env) :: starEach [] X.env := by rfl) : PD X Y (.Call (.Name "list" p) [a] [] pos) (e1 oList fa) :=
  pd_t1 (fun k => call_list_of) (fun k Z H x dx Q zt rx q => by
    rw [k]
    unfold oList at q
    split at q
    · obtain ⟨p, vs, rfl, hp, r1⟩ := rx
      exact ⟨p, vs, rfl, .inl (SqL.of hp), fun n hn => q _ _ (same_new hn) ⟨n, _, rfl, fun z => zt n z hn, upd_same, r1.same (same_new hn)⟩⟩
    · obtain ⟨p, vs, rfl, hp, r1⟩ := rep_tup rx
      exact ⟨p, vs, rfl, .inr hp, fun n hn => q _ _ (same_new hn) ⟨n, _, rfl, fun z => zt n z hn, upd_same, r1.same (same_new hn)⟩⟩
    · exact q.elim) (by decide +kernel) hg hm ha (hs := hs)
theorem pd_tuple (hg : Gl X "tuple") (hm : X.mg "tuple" = none) (ha : PDw X Y a fa) (hs : starEach (a :: []) X.env = (false, eval a X.env) :: starEach [] X.env := by rfl) : PD X Y (.Call (.Name "tuple" p) [a] [] pos) (e1 oTuple fa) :=
  pd_t1 (fun k => call_tuple_of) (fun k Z H x dx Q zt rx q => by
    rw [k]
    unfold oTuple at q
    split at q
    · obtain ⟨p, vs, rfl, hp, r1⟩ := rx
      exact ⟨p, vs, rfl, .inl ⟨SqL.of hp, fun n hn => q _ _ (same_new hn) ⟨n, _, rfl, .inl ⟨fun z => zt n z hn, upd_same⟩, r1.same (same_new hn)⟩⟩⟩
    · have rx' := rx
      obtain ⟨p, vs, rfl, hp, r1⟩ := rep_tup rx
      exact ⟨p, vs, rfl, .inr ⟨hp, q _ H (Same.refl H) rx'⟩⟩
    · exact q.elim) (by decide +kernel) hg hm ha (hs := hs)
theorem oIsi_kit {G : Gc} {Z : Addr → Prop} {H : Hp} {t : String} {x : V} {dx d : D} (rx : RepW G Z H dx x) (h : oIsi t dx = some d) : ∃ (n : String) (b : Bool), d = .bl b ∧ TyX G.K H x (.type n) ∧ PySem.W.kitOne G.K (.type n) (.type t) = some b := by
  have key : ∀ (n : String) (hx : TyX G.K H x (.type n)) (b : Bool), kitB n t = some b → D.bl b = d → ∃ (n : String) (b : Bool), d = .bl b ∧ TyX G.K H x (.type n) ∧ PySem.W.kitOne G.K (.type n) (.type t) = some b :=
    fun n hx b hk e => ⟨n, b, e.symm, hx, kit_ty hk⟩
  unfold oIsi at h
  split at h
  · have hx : TyX G.K H x (.type "bool") := by rw [show x = _ from rx]; exact .base (.bl _)
    split at h
    · rename_i ht
      rcases ht with rfl | rfl <;> exact key _ hx true (by decide +kernel) (Option.some.inj h)
    · split at h
      · rename_i ht
        rcases ht with rfl | rfl | rfl <;> exact key _ hx false (by decide +kernel) (Option.some.inj h)
      · cases h
  · have hx : TyX G.K H x (.type "int") := by rw [show x = _ from rx]; exact .base (.int _)
    split at h
    · rename_i ht
      subst ht
      exact key _ hx true (by decide +kernel) (Option.some.inj h)
    · split at h
      · rename_i ht
        rcases ht with rfl | rfl | rfl | rfl <;> exact key _ hx false (by decide +kernel) (Option.some.inj h)
      · cases h
  · have hx : TyX G.K H x (.type "str") := by rw [show x = _ from rx]; exact .base (.str _)
    split at h
    · rename_i ht
      subst ht
      exact key _ hx true (by decide +kernel) (Option.some.inj h)
    · split at h
      · rename_i ht
        rcases ht with rfl | rfl | rfl | rfl <;> exact key _ hx false (by decide +kernel) (Option.some.inj h)
      · cases h
  · have hx : TyX G.K H x (.type "tuple") := by
      obtain ⟨a, vs, rfl, t, r⟩ := rx
      rcases t with ⟨_, t⟩ | ⟨o, its, n, e, c, _⟩
      · exact .base (.tup t)
      · exact .kTuple e c
    split at h
    · rename_i ht
      subst ht
      exact key _ hx true (by decide +kernel) (Option.some.inj h)
    · split at h
      · rename_i ht
        rcases ht with rfl | rfl | rfl | rfl <;> exact key _ hx false (by decide +kernel) (Option.some.inj h)
      · cases h
  · have hx : TyX G.K H x (.type "list") := by
      obtain ⟨a, vs, rfl, t, r⟩ := rx
      exact .base (.lst t)
    split at h
    · rename_i ht
      subst ht
      exact key _ hx true (by decide +kernel) (Option.some.inj h)
    · split at h
      · rename_i ht
        rcases ht with rfl | rfl | rfl | rfl <;> exact key _ hx false (by decide +kernel) (Option.some.inj h)
      · cases h
  · have hx : TyX G.K H x (.type "NoneType") := by rw [show x = _ from rx]; exact .base .non
    split at h
    · rename_i ht
      rcases ht with rfl | rfl | rfl | rfl | rfl <;> exact key _ hx false (by decide +kernel) (Option.some.inj h)
    · cases h
  · cases h
/-- isinstance(x, T), T a built-in class -/
theorem pd_isi (t : String) {x : Str} (hg : Gl X "isinstance") (hm : X.mg "isinstance" = none) (ha : PDw X Y a fa) (hg2 : Gl X x) (hm2 : X.mg x = none) (hv2 : bootBuiltins x = some (.type t))
    (hs : starEach (a :: [.Name x p2]) X.env = (false, eval a X.env) :: starEach [.Name x p2] X.env := by rfl) (hs2 : starEach (.Name x p2 :: []) X.env = (false, eval (.Name x p2) X.env) :: starEach [] X.env := by rfl)
    (hpl : (backTo pos (starEach [.Name x p2] X.env)).any (·.1) = false := by rfl) (hn : x ≠ "__name__" := by decide) (hdb : (x == ("__debug__" : Str)) = false := by decide) : PD X Y (.Call (.Name "isinstance" p) [a, .Name x p2] [] pos) (e1 (oIsi t) fa) := fun k => by
  refine impPE (pe_callB call_isi hg hm (by decide +kernel) (pa_cons (ha k) (pa_cons (pe_bltn (v := .ty t) hg2 hm2 hv2 rfl hn hdb) pa_nil hs2) hs) (he := hs) (hpl := hpl)) fun σ H Q h => ?_
  refine un_imp (r := fun x H1 Q => rIsi X.K [x, .ty t] H1 Q) (fun Z H x dx Q zt rx q => ?_) σ H Q h
  cases e : oIsi t dx with
  | none => rw [e] at q; exact q.elim
  | some d =>
    rw [e] at q
    obtain ⟨n, b, rfl, hx, hk⟩ := oIsi_kit rx e
    rw [k.K]
    exact ⟨x, .ty t, .type n, .type t, b, rfl, .ty t, hx, hk, q _ H (Same.refl H) rfl⟩
end
section
variable {X : Cx} {Y : Cy} {a b c e : Expr} {fa fb fc : DE} {ga gb : DT} {pos p p2 : Pos}
theorem impB {t : TE} {f : DE} {t2 : TE} (h : PE X e t) (i : ∀ σ H Q, t2 σ H Q → t σ H Q) : PE X e t2 := impPE h i
theorem tval_imp (σ : L2.St) (H : Hp) (Q : Bool → Hp → Prop) (h : tDT Y (tVal fa) σ H Q) : tD Y fa σ H (fun x H1 => ∃ c, x = .bl c ∧ Q c H1) := by
  obtain ⟨O, ρ, s, q⟩ := h
  refine ⟨O, ρ, s, ?_⟩
  unfold tVal at q
  cases ea : fa ρ with
  | ex e => rw [ea] at q; exact q
  | no => rw [ea] at q; exact q
  | ok dx =>
    rw [ea] at q
    intro x H1 s1 rx
    cases dx with
    | bl k => exact ⟨k, rx, q H1 s1⟩
    | _ => exact q.elim
theorem pt_vl (ha : PD X Y a fa) (he : ∀ whole, isTrue a X.env whole = (do let v ← whole; standAt a.pos; holding [v] (truthy v)) := by intro _; rfl) : PDT X Y a (tVal fa) := fun k => impPT (pt_val (ha k) he) tval_imp
theorem pt_cm {op : CmpOp} {r : R2} {g : D → D → Option D} (hr : Lk X Y → OpR X (compareOp op) r) (ho : X.K = Y.G.K → Op2 Y.G r g) (ha : PDw X Y a fa) (hb : PDw X Y b fb) (hm : behindInMarks op b = false) : PDT X Y (.Compare a [op] [b] pos) (tVal (e2 g fa fb)) := fun k =>
  impPT (pt_cmpR (hr k) (ha k) (hb k) hm) fun σ H Q h => by
    have h1 := tval_imp σ H Q h
    exact bin_imp (ho k.K) σ H _ h1
theorem pt_lt (ha : PDw X Y a fa) (hb : PDw X Y b fb) : PDT X Y (.Compare a [.Lt] [b] pos) (tVal (e2 oLt fa fb)) := pt_cm (fun _ => op_lt) (fun _ => o2_lt _) ha hb (nomark _)
theorem pt_le (ha : PDw X Y a fa) (hb : PDw X Y b fb) : PDT X Y (.Compare a [.LtE] [b] pos) (tVal (e2 oLe fa fb)) := pt_cm (fun _ => op_le) (fun _ => o2_le _) ha hb (nomark _)
theorem pt_gt (ha : PDw X Y a fa) (hb : PDw X Y b fb) : PDT X Y (.Compare a [.Gt] [b] pos) (tVal (e2 oGt fa fb)) := pt_cm (fun _ => op_gt) (fun _ => o2_gt _) ha hb (nomark _)
theorem pt_ge (ha : PDw X Y a fa) (hb : PDw X Y b fb) : PDT X Y (.Compare a [.GtE] [b] pos) (tVal (e2 oGe fa fb)) := pt_cm (fun _ => op_ge) (fun _ => o2_ge _) ha hb (nomark _)
theorem pt_eq (ha : PDw X Y a fa) (hb : PDw X Y b fb) : PDT X Y (.Compare a [.Eq] [b] pos) (tVal (e2 oEq fa fb)) :=
  pt_cm (r := rEqA X.K) (fun k => op_eq.or (op_eqD (hu64 k.rm))) (fun k => by rw [k]; exact o2_eq _) ha hb (nomark _)
theorem pt_ne (ha : PDw X Y a fa) (hb : PDw X Y b fb) : PDT X Y (.Compare a [.NotEq] [b] pos) (tVal (e2 oNe fa fb)) :=
  pt_cm (r := rNeA X.K) (fun k => op_ne.or (op_neD (hu64 k.rm))) (fun k => by rw [k]; exact o2_ne _) ha hb (nomark _)
theorem pt_in (ha : PDw X Y a fa) (hb : PDw X Y b fb) (hm : behindInMarks .In b = false := by rfl) : PDT X Y (.Compare a [.In] [b] pos) (tVal (e2 oIn fa fb)) :=
  pt_cm (r := rInA X.K) (fun k => op_in_sign.or (op_in_seq.or ((op_inD (hu65 k.rm)).or (op_in_dict k.rm)))) (fun k => by rw [k]; exact o2_in _) ha hb hm
theorem pt_notin (ha : PDw X Y a fa) (hb : PDw X Y b fb) (hm : behindInMarks .NotIn b = false := by rfl) : PDT X Y (.Compare a [.NotIn] [b] pos) (tVal (e2 oNotIn fa fb)) :=
  pt_cm (r := rNInA X.K) (fun k => op_notIn_sign.or (op_notIn_seq.or ((op_notInD (hu65 k.rm)).or (op_notin_dict k.rm)))) (fun k => by rw [k]; exact o2_notin _) ha hb hm
theorem pt_isN' {j : Nat} (ha : PDw X Y a fa) : PDT X Y (.Compare a [.Is] [.Constant .none j p2] pos) (tVal (e1 oIsN fa)) := fun k => impPT (pt_cmp (pc_isN (ha k)) rfl) fun σ H Q h => by
  refine un_imp (r := fun x H1 Q => Q (.bl (decide (x = .non))) H1) (fun Z H x dx Q zt rx q => ?_) σ H _ (tval_imp σ H Q h)
  show Q (.bl (decide (x = .non))) H
  rw [rep_non rx]
  exact q _ H (Same.refl H) rfl
theorem pt_isNotN' {j : Nat} (ha : PDw X Y a fa) : PDT X Y (.Compare a [.IsNot] [.Constant .none j p2] pos) (tVal (e1 oIsNotN fa)) := fun k => impPT (pt_cmp (pc_notN (ha k)) rfl) fun σ H Q h => by
  refine un_imp (r := fun x H1 Q => Q (.bl (!decide (x = .non))) H1) (fun Z H x dx Q zt rx q => ?_) σ H _ (tval_imp σ H Q h)
  show Q (.bl (!decide (x = .non))) H
  rw [rep_non rx]
  exact q _ H (Same.refl H) rfl
theorem tru_rep {G : Gc} {Z : Addr → Prop} {H : Hp} {x : V} {dx : D} {k : Bool} (rx : RepW G Z H dx x) (h : truD dx = some k) : TruV G.K x H k := by
  unfold truD at h
  split at h
  · obtain rfl : x = .non := rx; exact (Option.some.inj h).symm
  · rename_i b; obtain rfl : x = .bl b := rx; exact (Option.some.inj h).symm
  · rename_i b; obtain rfl : x = .int b := rx; exact (Option.some.inj h).symm
  · rename_i b
    split at h
    · rename_i hl
      obtain rfl : x = .str b := rx; exact ⟨by rw [lineD_eq]; exact hl, (Option.some.inj h).symm⟩
    · cases h
  · obtain ⟨p, vs, rfl, hp, r1⟩ := rx
    exact .inl ⟨vs, SqL.of hp, by rw [← isEmpty_len r1.length]; exact (Option.some.inj h).symm⟩
  · obtain ⟨p, vs, rfl, hp, r1⟩ := rep_tup rx
    exact .inr (.inl ⟨vs, hp, by rw [← isEmpty_len r1.length]; exact (Option.some.inj h).symm⟩)
  · obtain ⟨p, vs, rfl, hp, hl, r1⟩ := rx
    exact .inr (.inr ⟨_, hp, by rw [isEmpty_sKeys hl]; exact (Option.some.inj h).symm⟩)
  · cases h
theorem pt_tru (ha : PDw X Y a fa) (he : ∀ whole, isTrue a X.env whole = (do let v ← whole; standAt a.pos; holding [v] (truthy v)) := by intro _; rfl) : PDT X Y a (tTru fa) := fun k => impPT (pt_truth (ha k) he) fun σ H Q h => by
  obtain ⟨O, ρ, s, q⟩ := h
  refine ⟨O, ρ, s, ?_⟩
  unfold tTru at q
  cases ea : fa ρ with
  | ex e => rw [ea] at q; exact q
  | no => rw [ea] at q; exact q
  | ok dx =>
    rw [ea] at q
    simp only [R.bind_ok] at q
    intro x H1 s1 rx
    cases e : truD dx with
    | none => rw [e] at q; exact q.elim
    | some kk =>
      rw [e] at q
      rw [k.K]
      exact ⟨kk, tru_rep rx e, q H1 s1⟩
theorem BPost.fwd {O : Addr → Prop} {σ : L2.St} {H H1 : Hp} {Q : Bool → Hp → Prop} {r : R Bool} (s : Same H H1) (h : BPost Y O σ H Q r) : BPost Y O σ H1 Q r := by
  cases r with
  | ok d => exact fun H' s' => h H' (s.trans s')
  | ex e => exact ex_fwd s h
  | no => exact h
theorem EPost.fwd {O : Addr → Prop} {σ : L2.St} {H H1 : Hp} {Q : VK} {r : R D} (s : Same H H1) (h : EPost Y O σ H Q r) : EPost Y O σ H1 Q r := by
  cases r with
  | ok d => exact fun v H' s' rv => h v H' (s.trans s') rv
  | ex e => exact ex_fwd s h
  | no => exact h
/-- a test, then something -/
theorem test_then {α : Type} {σ : L2.St} {H : Hp} {ρ : DEnv} {O : Addr → Prop} {P : R α → Prop} {k : Bool → R α} {Q : Bool → Hp → Prop} (s : SR Y O ρ σ H) (he : ∀ e, P (.ex e) → ∀ c od H', Same H H' → ExRep Y.G (Zo Y.Ze O) H' e c od → Y.E c od σ H') (hn : ¬ P .no)
    (h : P ((ga ρ).bind k)) (hq : ∀ b, ga ρ = .ok b → P (k b) → ∀ H1, Same H H1 → Q b H1) : tDT Y ga σ H Q := by
  refine ⟨O, ρ, s, ?_⟩
  cases ea : ga ρ with
  | ex e => rw [ea] at h; exact he e h
  | no => rw [ea] at h; exact hn h
  | ok b => rw [ea] at h; exact fun H1 s1 => hq b ea h H1 s1
theorem pw_and1' (ha : PDT X Y a ga) : PDTw X Y (.BoolOp .And [a] pos) ga := fun k => pw_and1 (ha k)
theorem pw_or1' (ha : PDT X Y a ga) : PDTw X Y (.BoolOp .Or [a] pos) ga := fun k => pw_or1 (ha k)
theorem pw_and' {rest : List Expr} (ha : PDT X Y a ga) (hb : PDTw X Y (.BoolOp .And (b :: rest) pos) gb) : PDTw X Y (.BoolOp .And (a :: b :: rest) pos) (tAndD ga gb) := fun k => impPW (pw_and (ha k) (hb k)) fun σ H Q ⟨O, ρ, s, q⟩ => by
  refine test_then (P := BPost Y O σ H Q) (k := fun k => if k then gb ρ else .ok false) s (fun e h => h) (fun h => h) q fun b eb hp H1 s1 => ?_
  cases b with
  | true => exact ⟨O, ρ, s.same s1, BPost.fwd s1 hp⟩
  | false => exact hp H1 s1
theorem pw_or' {rest : List Expr} (ha : PDT X Y a ga) (hb : PDTw X Y (.BoolOp .Or (b :: rest) pos) gb) : PDTw X Y (.BoolOp .Or (a :: b :: rest) pos) (tOrD ga gb) := fun k => impPW (pw_or (ha k) (hb k)) fun σ H Q ⟨O, ρ, s, q⟩ => by
  refine test_then (P := BPost Y O σ H Q) (k := fun k => if k then .ok true else gb ρ) s (fun e h => h) (fun h => h) q fun b eb hp H1 s1 => ?_
  cases b with
  | true => exact hp H1 s1
  | false => exact ⟨O, ρ, s.same s1, BPost.fwd s1 hp⟩
theorem pt_bo (h : PDTw X Y e ga) : PDT X Y e ga := fun k => (h k).pt
theorem pt_not' (ha : PDT X Y a ga) : PDT X Y (.UnaryOp .Not a pos) (tNotD ga) := fun k => impPT (pt_not (ha k)) fun σ H Q ⟨O, ρ, s, q⟩ => by
  exact test_then (P := BPost Y O σ H Q) (k := fun k => .ok (!k)) s (fun e h => h) (fun h => h) q fun b eb hp H1 s1 => hp H1 s1
theorem pd_if (hc : PDT X Y c ga) (ha : PD X Y a fa) (hb : PD X Y b fb) : PD X Y (.IfExp c a b pos) (eIf ga fa fb) := fun k => impPE (pe_ifExp (hc k) (ha k) (hb k)) fun σ H Q ⟨O, ρ, s, q⟩ => by
  refine test_then (P := EPost Y O σ H Q) (k := fun k => if k then fa ρ else fb ρ) s (fun e h => h) (fun h => h) q fun b eb hp H1 s1 => ?_
  cases b with
  | true => exact ⟨O, ρ, s.same s1, EPost.fwd s1 hp⟩
  | false => exact ⟨O, ρ, s.same s1, EPost.fwd s1 hp⟩
theorem pd_one {op : BoolOp} (ha : PD X Y a fa) : PD X Y (.BoolOp op [a] pos) fa := fun k => pe_one (ha k)
theorem pd_and {rest : List Expr} (ha : PD X Y a fa) (hb : PD X Y (.BoolOp .And (b :: rest) pos) fb) : PD X Y (.BoolOp .And (a :: b :: rest) pos) (eAnd fa fb) := fun k => impPE (pe_and (ha k) (hb k)) fun σ H Q ⟨O, ρ, s, q⟩ => by
  refine ⟨O, ρ, s, ?_⟩
  unfold eAnd at q
  cases ea : fa ρ with
  | ex e => rw [ea] at q; exact q
  | no => rw [ea] at q; exact q
  | ok dx =>
    rw [ea] at q
    simp only [R.bind_ok] at q
    intro x H1 s1 rx
    cases dx with
    | bl kk =>
      refine ⟨kk, rx, ?_⟩
      cases kk with
      | true => exact ⟨O, ρ, s.same s1, EPost.fwd s1 q⟩
      | false => exact q _ H1 s1 rfl
    | _ => exact q.elim
theorem pd_or {rest : List Expr} (ha : PD X Y a fa) (hb : PD X Y (.BoolOp .Or (b :: rest) pos) fb) : PD X Y (.BoolOp .Or (a :: b :: rest) pos) (eOr fa fb) := fun k => impPE (pe_or (ha k) (hb k)) fun σ H Q ⟨O, ρ, s, q⟩ => by
  refine ⟨O, ρ, s, ?_⟩
  unfold eOr at q
  cases ea : fa ρ with
  | ex e => rw [ea] at q; exact q
  | no => rw [ea] at q; exact q
  | ok dx =>
    rw [ea] at q
    simp only [R.bind_ok] at q
    intro x H1 s1 rx
    cases dx with
    | bl kk =>
      refine ⟨kk, rx, ?_⟩
      cases kk with
      | false => exact ⟨O, ρ, s.same s1, EPost.fwd s1 q⟩
      | true => exact q _ H1 s1 rfl
    | _ => exact q.elim
theorem pd_not (ha : PD X Y a fa) : PD X Y (.UnaryOp .Not a pos) (eNot fa) := fun k => impPE (pe_not (ha k)) fun σ H Q ⟨O, ρ, s, q⟩ => by
  refine ⟨O, ρ, s, ?_⟩
  unfold eNot at q
  cases ea : fa ρ with
  | ex e => rw [ea] at q; exact q
  | no => rw [ea] at q; exact q
  | ok dx =>
    rw [ea] at q
    simp only [R.bind_ok] at q
    intro x H1 s1 rx
    cases dx with
    | bl kk => exact ⟨kk, rx, q _ H1 s1 rfl⟩
    | _ => exact q.elim
theorem pd_neg (ha : PDw X Y a fa) : PD X Y (.UnaryOp .USub a pos) (e1 oNeg fa) := pd_un (r := rU fun i => .int (-i)) (fun _ => un_neg) (fun _ Z H x dx Q zt rx q => by
  unfold oNeg at q
  split at q
  · exact ⟨_, rx, q _ H (Same.refl H) rfl⟩
  · exact q.elim) ha
end
end Tw

set_option maxHeartbeats 2000000
namespace Tw
open PySem PySem.Spec L2
open PyProof.Rows hiding St
def DPost (G : Gc) (Ze : Addr → Prop) (H : Hp) (Q : VK) (E : XK) : R D → Prop
  | .ok d => ∀ v H', Same H H' → Rep G Ze H' d v → Q v H'
  | .ex e => ∀ c od H', Same H H' → ExRep G Ze H' e c od → E c od H'
  | .no => False
/-- a def that reads data and gives data -/
def dsp (G : Gc) (den : List D → R D) : Sp := fun vs H Q E => ∃ Ze ds, (∀ a, Ze a → H a ≠ none) ∧ RepL G Ze H ds vs ∧ DPost G Ze H Q E (den ds)
/-- an object of the text's classes at a -/
def ObjAt (G : Gc) (Z : Addr → Prop) (H : Hp) (a : Addr) (s : D) : Prop :=
  ∃ c ks l dx vs, s = .obj c ks l ∧ H a = some (.ins (G.cm c) dx (fKeys ks vs)) ∧ (ks.length = vs.length ∧ OkO G c ks) ∧ RepL G Z H l vs
def IPost (G : Gc) (Ze : Addr → Prop) (a : Addr) (H : Hp) (Q : VK) (E : XK) : R (D × D) → Prop
  | .ok p => ∀ v H', (∀ b o, b ≠ a → H b = some o → H' b = some o) → ObjAt G Ze H' a p.2 → Rep G Ze H' p.1 v → Q v H'
  | .ex e => ∀ c od H', (∀ b o, b ≠ a → H b = some o → H' b = some o) → ExRep G Ze H' e c od → E c od H'
  | .no => False
/-- an __init__ -/
def dspM (G : Gc) (init : D → List D → R (D × D)) : Sp := fun vs H Q E => ∃ Ze a s us ds, vs = .ref a :: us ∧ Ze a ∧ (∀ b, Ze b → H b ≠ none) ∧ ObjAt G Ze H a s ∧ RepL G Ze H ds us ∧ IPost G Ze a H Q E (init s ds)
/-- a def of the text under the name x: its meaning, its level -/
def Fk (P : Program) (w : World) (K : PySem.W.Frag) (mg : Str → Option Value) (base : Heap) (G : Gc) (x : Str) (den : List D → R D) (j : Nat) : Prop :=
  ∃ f fd ps, FnOk P w K mg base (L2.CX P w) j f fd ps (dsp G den) ∧ mg x = some (.ref f) ∧ PySem.W.keepIn K (.ref f) = true ∧ Binds K fd ps []
/-- a method of the class c -/
def Mt (P : Program) (w : World) (K : PySem.W.Frag) (mg : Str → Option Value) (base : Heap) (G : Gc) (c : String) (m : Str) (den : List D → R D) (j : Nat) : Prop :=
  ∃ f fd ps, FnOk P w K mg base (L2.CX P w) j f fd ps (dsp G den) ∧ Meth K (G.cm c) m f ∧ Binds K fd ps [] ∧ m ∉ fldOf c ∧ Cls K (G.cm c)
/-- the making of an object of the class c (the name x), all arguments written -/
def Ck (P : Program) (w : World) (K : PySem.W.Frag) (mg : Str → Option Value) (base : Heap) (G : Gc) (x : Str) (c : String) (init : D → List D → R (D × D)) (j : Nat) : Prop :=
  ∃ f fd ps, FnOk P w K mg base (L2.CX P w) j f fd ps (dspM G init) ∧ Mk K (G.cm c) f ∧ mg x = some (.ref (G.cm c)) ∧ Binds K fd ps [] ∧ G.has c
/-- .. with keywords: n places written, the keywords ks, gD how they come together -/
def CkK (P : Program) (w : World) (K : PySem.W.Frag) (mg : Str → Option Value) (base : Heap) (G : Gc) (x : Str) (c : String) (n : Nat) (ks : List Str) (gD : List D → List D → List D) (init : D → List D → R (D × D)) (j : Nat) : Prop :=
  ∃ (f : Addr) (fd : FuncData) (ps : List Str) (g : List Value → List Value → List Value) (gV : List V → List V → List V), FnOk P w K mg base (L2.CX P w) j f fd ps (dspM G init) ∧ Mk K (G.cm c) f ∧ mg x = some (.ref (G.cm c)) ∧ KBn K fd ps (n + 1) ks g (fun vs zs => match vs with | v :: r => v :: gV r zs | [] => gV [] zs) ∧ G.has c ∧
    ∀ Z H ds es vs us, ds.length = n → es.length = ks.length → RepL G Z H ds vs → RepL G Z H es us → RepL G Z H (gD ds es) (gV vs us)
section
variable {X : Cx} {CX : CXT} {k : Nat} {f C : Addr} {fd : FuncData} {ps : List Str} {sp : Sp} {dvs : List V} {ds : List Value} {E : L2.St → XK} {x m : Str} {p pos apos : Pos} {e o : Expr} {es : List Expr} {ta : TE} {t : TA}
def tMethD (C : Addr) (m : Str) (sp : Sp) (E : L2.St → XK) (ta : TE) (t : TA) : TE := fun σ H Q => ta σ H fun x H1 => ∃ a dx fs, x = .ref a ∧ H1 a = some (.ins C dx fs) ∧ fs.lookup m = none ∧ t σ H1 fun vs H2 => sp (x :: vs) H2 Q (E σ)
theorem run_fn0D {pins : List (Addr × Obj)} {σ : L2.St} {H : Hp} {s : Shared} {Q : VK} {us : List Value} {vs : List V} (F : FnOk X.prog X.w X.K X.mg X.base CX k f fd ps sp) (hr : Room k X.A) (hb : Binds X.K fd ps []) (hx : PassesAt CX X σ (E σ))
    (I : Inv X pins σ H s) (r : Vals vs us) (h : sp vs H Q (E σ)) : wpAny (model X.prog X.w) X.A (call (.ref f) us) (EP X pins σ Q) X.xe s :=
  run_fnSD (dvs := []) (ds := []) F hr hb .nil hx I r (by rw [List.append_nil]; exact h)
theorem pe_call0D (F : FnOk X.prog X.w X.K X.mg X.base CX k f fd ps sp) (hr : Room k X.A) (hg : Gl X x) (hm : X.mg x = some (.ref f)) (hk : PySem.W.keepIn X.K (.ref f) = true) (hb : Binds X.K fd ps []) (hx : ∀ σ, PassesAt CX X σ (E σ))
    (hdb : (x == ("__debug__" : Str)) = false := by decide) : PE X (.Call (.Name x p) [] [] pos) (fun σ H Q => sp [] H Q (E σ)) := by
  refine ⟨fun pins s σ H Q I h => ?_⟩
  refine wpAny_Call_Name_kw (ld_glob I hg hm ?_ hdb)
  exact PySem.W.callWith_K0 I.kIn hk (run_fn0D (us := []) (vs := []) F hr hb (hx σ) I .nil h)
theorem pe_methD {pl : Sem Bool} (he : PE X o ta) (c : Cls X.K C) (hm : Meth X.K C m f) (F : FnOk X.prog X.w X.K X.mg X.base CX k f fd ps sp) (hr : Room k X.A) (hb : Binds X.K fd ps []) (hx : ∀ σ, PassesAt CX X σ (E σ)) (ha : PA X (e :: es) t)
    (hst : starEach (e :: es) X.env = (false, eval e X.env) :: starEach es X.env := by rfl) (hpl : (backTo pos (starEach es X.env)).any (·.1) = false := by rfl)
    (ht : eval (.Call (.Attribute o m apos) (e :: es) [] pos) X.env = (do
      let ov ← eval o X.env
      standAt apos.atName
      let (f, first) ← holding [ov] (getMethod ov m pl)
      callWith pos f first (backTo pos (starEach (e :: es) X.env)) (backToKw pos (keywordEach [] X.env))) := by rfl) :
    PE X (.Call (.Attribute o m apos) (e :: es) [] pos) (tMethD C m sp E ta t) := by
  refine ⟨fun pins s σ H Q I h => ?_⟩
  refine PySem.W.methodCall_KW (pl := pl) (thn (he.run pins s σ H _ I h) fun u s1 ⟨x, H1, I1, rx, a, dx, fs, ex, ea, l, q⟩ => ?_) ht
  subst ex
  obtain rfl : u = Value.ref a := rx
  refine getmeth_ok I1 ea c hm l ?_
  refine PySem.W.callWith_K (first := [.ref a]) (h₀ := X.base) I.ok.mod.kin hm.kp (thn (ha.run pos pins s1 σ H1 _ I1 q) fun us s2 ⟨vs, H2, I2, r, q2⟩ => ⟨I2.kIn, ?_⟩) hst hpl
  exact run_fn0D (us := .ref a :: us) (vs := .ref a :: vs) F hr hb (hx σ) I2 (.cons rfl r) q2
theorem pe_meth0D {pl : Sem Bool} (he : PE X o ta) (c : Cls X.K C) (hm : Meth X.K C m f) (F : FnOk X.prog X.w X.K X.mg X.base CX k f fd ps sp) (hr : Room k X.A) (hb : Binds X.K fd ps []) (hx : ∀ σ, PassesAt CX X σ (E σ))
    (ht : eval (.Call (.Attribute o m apos) [] [] pos) X.env = (do
      let ov ← eval o X.env
      standAt apos.atName
      let (f, first) ← holding [ov] (getMethod ov m pl)
      callWith pos f first (backTo pos (starEach [] X.env)) (backToKw pos (keywordEach [] X.env))) := by rfl) :
    PE X (.Call (.Attribute o m apos) [] [] pos) (tMethD C m sp E ta tNil) := by
  refine ⟨fun pins s σ H Q I h => ?_⟩
  refine PySem.W.methodCall_KW (pl := pl) (thn (he.run pins s σ H _ I h) fun u s1 ⟨x, H1, I1, rx, a, dx, fs, ex, ea, l, q⟩ => ?_) ht
  subst ex
  obtain rfl : u = Value.ref a := rx
  refine getmeth_ok I1 ea c hm l ?_
  exact PySem.W.callWith_K0 (first := [.ref a]) I1.kIn hm.kp (run_fn0D (us := [.ref a]) (vs := [.ref a]) F hr hb (hx σ) I1 (.cons rfl .nil) q)
def tMakeD (C : Addr) (sp : Sp) (E : L2.St → XK) (t : TA) : TE := fun σ H Q => t σ H fun vs H1 => ∀ x dx, H1 x = none → H1 dx = none → dx ≠ x →
  sp (.ref x :: vs) (upd (upd H1 dx (.own x)) x (.ins C dx [])) (fun v H2 => v = .non ∧ Q (.ref x) H2) (E σ)
theorem run_makeD {pins : List (Addr × Obj)} {σ : L2.St} {H : Hp} {s : Shared} {Q : VK} {us : List Value} {vs : List V} (M : Mk X.K C f) (F : FnOk X.prog X.w X.K X.mg X.base CX k f fd ps sp) (hr : Room (k + 1) X.A) (hb : Binds X.K fd ps [])
    (hx : PassesAt CX X σ (E σ)) (I : Inv X pins σ H s) (r : Vals vs us)
    (h : ∀ x dx, H x = none → H dx = none → dx ≠ x → sp (.ref x :: vs) (upd (upd H dx (.own x)) x (.ins C dx [])) (fun v H2 => v = .non ∧ Q (.ref x) H2) (E σ)) :
    wpAny (model X.prog X.w) X.A (call (.ref C) us) (EP X pins σ Q) X.xe s := by
  have hq := h (s.heap.objs.size + 1) s.heap.objs.size (I.hok.fresh (Nat.le_succ _)) (I.hok.fresh (Nat.le_refl _)) (Nat.ne_of_lt (Nat.lt_succ_self _))
  have I2 := Inv.made (C := C) I
  have r2 : Vals (V.ref (s.heap.objs.size + 1) :: vs) (Value.ref (s.heap.objs.size + 1) :: us) := .cons rfl r
  have hl : (Value.ref (s.heap.objs.size + 1) :: us ++ []).length = ps.length := by
    have e := r2.length
    rw [F.len _ _ _ _ hq] at e
    rw [List.append_nil]
    exact e.symm
  have hb' := hb _ (Value.ref (s.heap.objs.size + 1) :: us) I2.kIn hl
  rw [List.append_nil] at hb'
  refine wpAny_call (make_map (f := f) I.kIn M.makes M.init (beq_iff_eq.mp M.fn) (codeAny_mono (F.run _ X.stack _ _ ⟨Value.ref (s.heap.objs.size + 1) :: us, []⟩ (Value.ref (s.heap.objs.size + 1) :: us) _ _ (E σ) (hr.make C us [])
    (I2.env0.make C us []) hb' r2 hq) fun r s' hq' => ?_))
  cases r with
  | error e => exact hx pins _ _ e s' I2 hq'
  | ok fl =>
    cases fl with
    | ret u =>
      obtain ⟨v, H', I3, rv, ev, q3⟩ := I2.after hq'
      subst ev
      exact ⟨rv, ⟨V.ref (s.heap.objs.size + 1), H', I3, rfl, q3⟩⟩
    | next => exact False.elim hq'
    | brk => exact False.elim hq'
    | cont => exact False.elim hq'
theorem pe_makeD (M : Mk X.K C f) (F : FnOk X.prog X.w X.K X.mg X.base CX k f fd ps sp) (hr : Room (k + 1) X.A) (hg : Gl X x) (hm : X.mg x = some (.ref C)) (hb : Binds X.K fd ps []) (hx : ∀ σ, PassesAt CX X σ (E σ))
    (ha : PA X (e :: es) t) (hdb : (x == ("__debug__" : Str)) = false := by decide) (he : starEach (e :: es) X.env = (false, eval e X.env) :: starEach es X.env := by rfl) (hpl : (backTo pos (starEach es X.env)).any (·.1) = false := by rfl) :
    PE X (.Call (.Name x p) (e :: es) [] pos) (tMakeD C sp E t) := by
  refine ⟨fun pins s σ H Q I h => ?_⟩
  refine wpAny_Call_Name_kw (ld_glob I hg hm ?_ hdb)
  refine PySem.W.callWith_K (h₀ := X.base) I.ok.mod.kin M.kp (thn (ha.run pos pins s σ H _ I h) fun us s1 ⟨vs, H1, I1, r, q⟩ => ⟨I1.kIn, ?_⟩) he hpl
  exact run_makeD M F hr hb (hx σ) I1 r q
theorem pe_make0D (M : Mk X.K C f) (F : FnOk X.prog X.w X.K X.mg X.base CX k f fd ps sp) (hr : Room (k + 1) X.A) (hg : Gl X x) (hm : X.mg x = some (.ref C)) (hb : Binds X.K fd ps []) (hx : ∀ σ, PassesAt CX X σ (E σ))
    (hdb : (x == ("__debug__" : Str)) = false := by decide) : PE X (.Call (.Name x p) [] [] pos) (tMakeD C sp E tNil) := by
  refine ⟨fun pins s σ H Q I h => ?_⟩
  refine wpAny_Call_Name_kw (ld_glob I hg hm ?_ hdb)
  exact PySem.W.callWith_K0 I.kIn M.kp (run_makeD (us := []) M F hr hb (hx σ) I .nil h)
def tMakeKD (C : Addr) (n m : Nat) (sp : Sp) (gV : List V → List V → List V) (E : L2.St → XK) (t tk : TA) : TE := fun σ H Q => t σ H fun vs H1 => tk σ H1 fun zs H2 => vs.length = n ∧ zs.length = m ∧ ∀ x dx, H2 x = none → H2 dx = none → dx ≠ x →
  sp (gV (.ref x :: vs) zs) (upd (upd H2 dx (.own x)) x (.ins C dx [])) (fun v H3 => v = .non ∧ Q (.ref x) H3) (E σ)
variable {n : Nat} {ks : List Str} {g : List Value → List Value → List Value} {gV : List V → List V → List V} {kws : List Keyword} {tk : TA}
theorem run_makeKD {pins : List (Addr × Obj)} {σ : L2.St} {H : Hp} {s : Shared} {Q : VK} {us ws : List Value} {vs zs : List V} (M : Mk X.K C f) (F : FnOk X.prog X.w X.K X.mg X.base CX k f fd ps sp) (hr : Room (k + 1) X.A) (hb : KBn X.K fd ps (n + 1) ks g gV) (hx : PassesAt CX X σ (E σ))
    (I : Inv X pins σ H s) (r : Vals vs us) (rz : Vals zs ws) (l1 : vs.length = n) (l2 : zs.length = ks.length)
    (h : ∀ x dx, H x = none → H dx = none → dx ≠ x → sp (gV (.ref x :: vs) zs) (upd (upd H dx (.own x)) x (.ins C dx [])) (fun v H2 => v = .non ∧ Q (.ref x) H2) (E σ)) :
    wpAny (model X.prog X.w) X.A (call (.ref C) us (ks.zip ws)) (EP X pins σ Q) X.xe s := by
  have hq := h (s.heap.objs.size + 1) s.heap.objs.size (I.hok.fresh (Nat.le_succ _)) (I.hok.fresh (Nat.le_refl _)) (Nat.ne_of_lt (Nat.lt_succ_self _))
  have I2 := Inv.made (C := C) I
  have r1 : Vals (V.ref (s.heap.objs.size + 1) :: vs) (Value.ref (s.heap.objs.size + 1) :: us) := .cons rfl r
  have r2 := hb.rel r1 rz
  have n1 : (Value.ref (s.heap.objs.size + 1) :: us).length = n + 1 := by
    rw [List.length_cons, ← r.length, l1]
  refine wpAny_call (make_map (f := f) I.kIn M.makes M.init (beq_iff_eq.mp M.fn) (codeAny_mono (F.run _ X.stack _ _ ⟨Value.ref (s.heap.objs.size + 1) :: us, ks.zip ws⟩ (g (Value.ref (s.heap.objs.size + 1) :: us) ws) _ _ (E σ) (hr.make C us (ks.zip ws))
    (I2.env0.make C us (ks.zip ws)) (hb.to _ (Value.ref (s.heap.objs.size + 1) :: us) ws I2.kIn n1 (rz.length.symm.trans l2)) r2 hq) fun r s' hq' => ?_))
  cases r with
  | error e => exact hx pins _ _ e s' I2 hq'
  | ok fl =>
    cases fl with
    | ret u =>
      obtain ⟨v, H', I3, rv, ev, q3⟩ := I2.after hq'
      subst ev
      exact ⟨rv, ⟨V.ref (s.heap.objs.size + 1), H', I3, rfl, q3⟩⟩
    | next => exact False.elim hq'
    | brk => exact False.elim hq'
    | cont => exact False.elim hq'
theorem pe_makeKD (M : Mk X.K C f) (F : FnOk X.prog X.w X.K X.mg X.base CX k f fd ps sp) (hr : Room (k + 1) X.A) (hg : Gl X x) (hm : X.mg x = some (.ref C)) (hb : KBn X.K fd ps (n + 1) ks g gV) (hx : ∀ σ, PassesAt CX X σ (E σ)) (ha : PA X (e :: es) t) (hkw : PK X kws tk)
    (hall : (backToKw pos (keywordEach kws X.env)).all (·.1.isSome) = true := by rfl) (hks : (backToKw pos (keywordEach kws X.env)).filterMap (·.1) = ks := by rfl) (hdb : (x == ("__debug__" : Str)) = false := by decide)
    (he : starEach (e :: es) X.env = (false, eval e X.env) :: starEach es X.env := by rfl) (hpl : ((backTo pos (starEach (e :: es) X.env)).any (·.1) || (backToKw pos (keywordEach kws X.env)).any (·.1.isNone)) = false := by rfl) :
    PE X (.Call (.Name x p) (e :: es) kws pos) (tMakeKD C n ks.length sp gV E t tk) := by
  refine ⟨fun pins s σ H Q I h => ?_⟩
  refine wpAny_Call_Name_kw (ld_glob I hg hm ?_ hdb)
  refine PySem.W.callWith_KW (h₀ := X.base) I.ok.mod.kin M.kp hall (thn (ha.run pos pins s σ H _ I h) fun us s1 ⟨vs, H1, I1, r, q⟩ => ?_) hpl he
  refine thn (hkw.run pos pins s1 σ H1 _ I1 q) fun ws s2 ⟨zs, H2, I2, rz, l1, l2, q2⟩ => ⟨I2.kIn, ?_⟩
  rw [hks]
  exact run_makeKD M F hr hb (hx σ) I2 r rz l1 l2 q2
structure CFn (K : PySem.W.Frag) (C : Addr) (m : Str) (g : Addr) : Prop where
  rd : PySem.W.readsIn K C (.type "type") = true
  ga : PySem.W.specialIn K (.ref C) "__getattribute__" = some (some (.builtin "type.__getattribute__"))
  at_ : PySem.W.findCls K (.ref C) (.type "type") m = some (.val (.ref g)) ∨ ∃ p rest, PySem.W.findCls K (.ref C) (.type "type") m = some (.get (.builtin "staticmethod.__get__") (.ref p) .none (.ref C)) ∧ PySem.W.recIn K p "staticmethod" = some (.ref g :: rest)
  kp : PySem.W.keepIn K (.ref g) = true
theorem getm_cfn {pl : Sem Bool} {pins : List (Addr × Obj)} {σ : L2.St} {H : Hp} {s : Shared} {g : Addr} {Q : Value × List Value → Shared → Prop} {A : Around} {E : Value → Shared → Prop} (I : Inv X pins σ H s) (r : CFn X.K C m g)
    (h : ∀ s', Inv X pins σ H s' → Q (.ref g, []) s') : wpAny (model X.prog X.w) A (getMethod (.ref C) m pl) Q E s := by
  refine PySem.W.method_cls I.kIn r.ga ?_
  rcases r.at_ with e | ⟨p, rest, e, hp⟩
  · exact PySem.W.cls_value I.kIn r.rd e rfl (h _ (I.tok _))
  · refine PySem.W.cls_bind I.kIn r.rd e ?_
    exact wpAny_call (PySem.W.sm_get (s := { s with toks := s.toks + 1 }) I.kIn hp (PySem.W.handed_on rfl (h _ (I.tok _))))
def tCFn (sp : Sp) (E : L2.St → XK) (t : TA) : TE := fun σ H Q => t σ H fun vs H1 => sp vs H1 Q (E σ)
theorem pe_cfn {pl : Sem Bool} {g : Addr} {xc : Str} {pc : Pos} (hg : Gl X xc) (hmc : X.mg xc = some (.ref C)) (r : CFn X.K C m g) (F : FnOk X.prog X.w X.K X.mg X.base CX k g fd ps sp) (hr : Room k X.A) (hb : Binds X.K fd ps []) (hx : ∀ σ, PassesAt CX X σ (E σ)) (ha : PA X (e :: es) t)
    (hdb : (xc == ("__debug__" : Str)) = false := by decide) (hst : starEach (e :: es) X.env = (false, eval e X.env) :: starEach es X.env := by rfl) (hpl : (backTo pos (starEach es X.env)).any (·.1) = false := by rfl)
    (ht : eval (.Call (.Attribute (.Name xc pc) m apos) (e :: es) [] pos) X.env = (do
      let ov ← eval (.Name xc pc) X.env
      standAt apos.atName
      let (f, first) ← holding [ov] (getMethod ov m pl)
      callWith pos f first (backTo pos (starEach (e :: es) X.env)) (backToKw pos (keywordEach [] X.env))) := by rfl) :
    PE X (.Call (.Attribute (.Name xc pc) m apos) (e :: es) [] pos) (tCFn sp E t) := by
  refine ⟨fun pins s σ H Q I h => ?_⟩
  refine PySem.W.methodCall_KW (pl := pl) (ld_glob I hg hmc ?_ hdb) ht
  refine getm_cfn I r fun s1 I1 => ?_
  refine PySem.W.callWith_K (first := []) (h₀ := X.base) I.ok.mod.kin r.kp (thn (ha.run pos pins s1 σ H _ I1 h) fun us s2 ⟨vs, H2, I2, rv, q2⟩ => ⟨I2.kIn, ?_⟩) hst hpl
  exact run_fn0D F hr hb (hx σ) I2 rv q2
end
section
variable {X : Cx} {Y : Cy} {a b c e o : Expr} {es : List Expr} {fa fb fc fo : DE} {fs : DA} {pos p p2 apos pc : Pos} {x m xc : Str} {den : List D → R D} {init : D → List D → R (D × D)} {j n : Nat}
theorem WE_def {W : WX} {σ : L2.St} : WE W σ = fun c d H => W c d σ H := rfl
/-- what a callee's promise asks, from what is wanted of its answer -/
theorem dsp_of {O : Addr → Prop} {σ : L2.St} {ρ : DEnv} {H : Hp} {Q : VK} {ds : List D} {vs : List V} (s : SR Y O ρ σ H) (r : RepL Y.G (Zo Y.Ze O) H ds vs) (h : EPost Y O σ H Q (den ds)) : dsp Y.G den vs H Q (WE Y.E σ) := by
  refine ⟨Zo Y.Ze O, ds, s.zt, r, ?_⟩
  cases e : den ds with
  | ok d => rw [e] at h; exact h
  | ex x => rw [e] at h; exact h
  | no => rw [e] at h; exact h
theorem call_imp (σ : L2.St) (H : Hp) (Q : VK) (h : tD Y (eCall den fs) σ H Q) : tDA Y fs σ H (fun vs H1 => dsp Y.G den vs H1 Q (WE Y.E σ)) := by
  obtain ⟨O, ρ, s, q⟩ := h
  refine ⟨O, ρ, s, ?_⟩
  unfold eCall at q
  cases ea : fs ρ with
  | ex e => rw [ea] at q; exact q
  | no => rw [ea] at q; exact q
  | ok ds =>
    rw [ea] at q
    intro vs H1 s1 rs
    exact dsp_of (s.same s1) rs (EPost.fwd s1 q)
theorem pd_call (F : Fk X.prog X.w X.K X.mg X.base Y.G x den j) (hj : j ≤ Y.lv) (hg : Gl X x) (ha : PDA X Y (e :: es) fs) (hdb : (x == ("__debug__" : Str)) = false := by decide) (he : starEach (e :: es) X.env = (false, eval e X.env) :: starEach es X.env := by rfl)
    (hpl : (backTo pos (starEach es X.env)).any (·.1) = false := by rfl) : PD X Y (.Call (.Name x p) (e :: es) [] pos) (eCall den fs) := fun k => by
  obtain ⟨f, fd, ps, F, hm, hk, hb⟩ := F
  refine impPE (pe_callSD (E := WE Y.E) (dvs := []) F (k.rm.mono hj) hg hm hk hb .nil (fun σ => passAt k.tk σ) (ha k) hdb he hpl) fun σ H Q h => ?_
  have := call_imp σ H Q h
  unfold tCallSD
  simpa only [List.append_nil] using this
theorem pd_cfn {pl : Sem Bool} {C g : Addr} {fd : FuncData} {ps : List Str} (hg : Gl X xc) (hmc : X.mg xc = some (.ref C)) (r : CFn X.K C m g) (F : FnOk X.prog X.w X.K X.mg X.base (L2.CX X.prog X.w) j g fd ps (dsp Y.G den)) (hb : Binds X.K fd ps []) (hj : j ≤ Y.lv) (ha : PDA X Y (e :: es) fs)
    (hdb : (xc == ("__debug__" : Str)) = false := by decide) (hst : starEach (e :: es) X.env = (false, eval e X.env) :: starEach es X.env := by rfl) (hpl : (backTo pos (starEach es X.env)).any (·.1) = false := by rfl)
    (ht : eval (.Call (.Attribute (.Name xc pc) m apos) (e :: es) [] pos) X.env = (do
      let ov ← eval (.Name xc pc) X.env
      standAt apos.atName
      let (f, first) ← holding [ov] (getMethod ov m pl)
      callWith pos f first (backTo pos (starEach (e :: es) X.env)) (backToKw pos (keywordEach [] X.env))) := by rfl) :
    PD X Y (.Call (.Attribute (.Name xc pc) m apos) (e :: es) [] pos) (eCall den fs) := fun k =>
  impPE (pe_cfn (E := WE Y.E) hg hmc r F (k.rm.mono hj) hb (fun σ => passAt k.tk σ) (ha k) hdb hst hpl ht) fun σ H Q h => call_imp σ H Q h
theorem no_look : ∀ {ks : List Str} {vs : List V} {m : Str}, m ∉ ks → (fKeys ks vs).lookup m = none
  | [], vs, m, _ => by cases vs <;> rfl
  | k :: ks, [], m, _ => rfl
  | k :: ks, v :: vs, m, h => by
    have h1 : (m == k) = false := beq_eq_false_iff_ne.mpr fun q => h (by rw [q]; exact List.mem_cons_self)
    simp only [fKeys, List.lookup_cons, h1]
    exact no_look fun q => h (List.mem_cons_of_mem _ q)
theorem meth_imp {cn : String} {t : TA} (hm : m ∉ fldOf cn) (σ : L2.St) (H : Hp) (Q : VK) (ht : ∀ σ H Q, tDA Y fs σ H Q → t σ H Q) (h : tD Y (eMeth [cn] den fo fs) σ H Q) : tMethD (Y.G.cm cn) m (dsp Y.G den) (WE Y.E) (tD Y fo) t σ H Q := by
  obtain ⟨O, ρ, s, q⟩ := h
  refine ⟨O, ρ, s, ?_⟩
  unfold eMeth at q
  cases ea : fo ρ with
  | ex e => rw [ea] at q; exact q
  | no => rw [ea] at q; exact q
  | ok dx =>
    rw [ea] at q
    simp only [R.bind_ok] at q
    intro x H1 s1 rx
    cases dx with
    | obj c ks l =>
      simp only at q
      split at q
      · rename_i hc
        obtain rfl : c = cn := by simpa using hc
        obtain ⟨p, dx, vs, rfl, n, hp, ⟨hl, hc, hf⟩, r1⟩ := id rx
        refine ⟨p, dx, _, rfl, hp, no_look fun z => hm (hf m z), ht σ H1 _ ⟨O, ρ, s.same s1, ?_⟩⟩
        cases eb : fs ρ with
        | ex e => rw [eb] at q; exact ex_fwd s1 q
        | no => rw [eb] at q; exact q
        | ok ds =>
          rw [eb] at q
          intro us H2 s2 rs
          exact dsp_of (s.same (s1.trans s2)) (RepL.cons (rx.same s2) rs) (EPost.fwd (s1.trans s2) q)
      · exact q.elim
    | _ => exact q.elim
theorem pd_meth {pl : Sem Bool} {cn : String} (M : Mt X.prog X.w X.K X.mg X.base Y.G cn m den j) (hj : j ≤ Y.lv) (ho : PD X Y o fo) (ha : PDA X Y (e :: es) fs)
    (hst : starEach (e :: es) X.env = (false, eval e X.env) :: starEach es X.env := by rfl) (hpl : (backTo pos (starEach es X.env)).any (·.1) = false := by rfl)
    (ht : eval (.Call (.Attribute o m apos) (e :: es) [] pos) X.env = (do
      let ov ← eval o X.env
      standAt apos.atName
      let (f, first) ← holding [ov] (getMethod ov m pl)
      callWith pos f first (backTo pos (starEach (e :: es) X.env)) (backToKw pos (keywordEach [] X.env))) := by rfl) :
    PD X Y (.Call (.Attribute o m apos) (e :: es) [] pos) (eMeth [cn] den fo fs) := fun k => by
  obtain ⟨f, fd, ps, F, hm, hb, hn, hc⟩ := M
  exact impPE (pe_methD (E := WE Y.E) (ho k) hc hm F (k.rm.mono hj) hb (fun σ => passAt k.tk σ) (ha k) hst hpl ht) fun σ H Q h => meth_imp hn σ H Q (fun _ _ _ q => q) h
theorem pd_meth0 {pl : Sem Bool} {cn : String} (M : Mt X.prog X.w X.K X.mg X.base Y.G cn m den j) (hj : j ≤ Y.lv) (ho : PD X Y o fo)
    (ht : eval (.Call (.Attribute o m apos) [] [] pos) X.env = (do
      let ov ← eval o X.env
      standAt apos.atName
      let (f, first) ← holding [ov] (getMethod ov m pl)
      callWith pos f first (backTo pos (starEach [] X.env)) (backToKw pos (keywordEach [] X.env))) := by rfl) :
    PD X Y (.Call (.Attribute o m apos) [] [] pos) (eMeth [cn] den fo aNil) := fun k => by
  obtain ⟨f, fd, ps, F, hm, hb, hn, hc⟩ := M
  exact impPE (pe_meth0D (E := WE Y.E) (ho k) hc hm F (k.rm.mono hj) hb (fun σ => passAt k.tk σ) ht) fun σ H Q h => meth_imp hn σ H Q (fun σ H Q ⟨O, ρ, s, q⟩ => q [] H (Same.refl H) rfl) h
/-- the promise of an __init__ at the new object -/
theorem make_of {cn : String} {O : Addr → Prop} {σ : L2.St} {ρ : DEnv} {H : Hp} {Q : VK} {ds : List D} {vs : List V} (hc : Y.G.has cn) (s : SR Y O ρ σ H) (r : RepL Y.G (Zo Y.Ze O) H ds vs) (h : EPost Y O σ H Q (mkD cn init ds)) (x dx : Addr) (hx : H x = none) (hd : H dx = none) (ne : dx ≠ x) :
    dspM Y.G init (.ref x :: vs) (upd (upd H dx (.own x)) x (.ins (Y.G.cm cn) dx [])) (fun v H2 => v = .non ∧ Q (.ref x) H2) (WE Y.E σ) := by
  have s1 : Same H (upd (upd H dx (.own x)) x (.ins (Y.G.cm cn) dx [])) := fun b o e => by
    rw [upd_ne (ne_of_none e hx), upd_ne (ne_of_none e hd)]
    exact e
  have hz : ∀ b, (fun b => Zo Y.Ze O b ∨ b = x) b → upd (upd H dx (.own x)) x (.ins (Y.G.cm cn) dx []) b ≠ none := fun b z q => by
    rcases z with z | rfl
    · exact s.zt b z (s1.free q)
    · rw [upd_same] at q; cases q
  have r1 : RepL Y.G (fun b => Zo Y.Ze O b ∨ b = x) (upd (upd H dx (.own x)) x (.ins (Y.G.cm cn) dx [])) ds vs :=
    RepL.mono (Same.sub s1) (fun b z => z.elim .inl fun e => .inr (by rw [e]; exact hx)) r
  refine ⟨fun b => Zo Y.Ze O b ∨ b = x, x, .obj cn [] [], vs, ds, rfl, .inr rfl, hz, ⟨cn, [], [], dx, [], rfl, upd_same, ⟨rfl, hc, fun f z => by cases z⟩, rfl⟩, r1, ?_⟩
  unfold mkD at h
  cases e : init (.obj cn [] []) ds with
  | no => rw [e] at h; exact h
  | ex y =>
    rw [e] at h
    intro c od H' s' xr
    refine h c od H' (fun b o q => s' b o (ne_of_none q hx) (s1 b o q)) ?_
    obtain ⟨e1, d, us, e2, e3, e4, e5⟩ := xr
    exact ⟨e1, d, us, e2, e3, e4, e5.weak fun b z => .inl z⟩
  | ok p =>
    rw [e] at h
    obtain ⟨d, s'⟩ := p
    simp only [R.bind_ok] at h
    cases d with
    | non =>
      intro v H' sm ob rv
      refine ⟨rv, h _ H' (fun b o q => sm b o (ne_of_none q hx) (s1 b o q)) ?_⟩
      obtain ⟨c, ks, l, dx', us, e1, e2, e3, e4⟩ := ob
      have e1 : s' = .obj c ks l := e1
      subst e1
      exact ⟨x, dx', us, rfl, fun z => s.zt x z hx, e2, e3, e4.weak fun b z => .inl z⟩
    | _ => exact h.elim
theorem make_imp {cn : String} {t : TA} (hc : Y.G.has cn) (σ : L2.St) (H : Hp) (Q : VK) (ht : ∀ σ H Q, tDA Y fs σ H Q → t σ H Q) (h : tD Y (eCall (mkD cn init) fs) σ H Q) : tMakeD (Y.G.cm cn) (dspM Y.G init) (WE Y.E) t σ H Q := by
  obtain ⟨O, ρ, s, q⟩ := h
  refine ht σ H _ ⟨O, ρ, s, ?_⟩
  unfold eCall at q
  cases ea : fs ρ with
  | ex e => rw [ea] at q; exact q
  | no => rw [ea] at q; exact q
  | ok ds =>
    rw [ea] at q
    intro vs H1 s1 rs x dx hx hd ne
    exact make_of hc (s.same s1) rs (EPost.fwd s1 q) x dx hx hd ne
theorem pd_make {cn : String} (M : Ck X.prog X.w X.K X.mg X.base Y.G x cn init j) (hj : j + 1 ≤ Y.lv) (hg : Gl X x) (ha : PDA X Y (e :: es) fs) (hdb : (x == ("__debug__" : Str)) = false := by decide) (he : starEach (e :: es) X.env = (false, eval e X.env) :: starEach es X.env := by rfl)
    (hpl : (backTo pos (starEach es X.env)).any (·.1) = false := by rfl) : PD X Y (.Call (.Name x p) (e :: es) [] pos) (eCall (mkD cn init) fs) := fun k => by
  obtain ⟨f, fd, ps, F, hk, hm, hb, hc⟩ := M
  exact impPE (pe_makeD (E := WE Y.E) hk F (k.rm.mono hj) hg hm hb (fun σ => passAt k.tk σ) (ha k) hdb he hpl) fun σ H Q h => make_imp hc σ H Q (fun _ _ _ q => q) h
theorem pd_make0 {cn : String} (M : Ck X.prog X.w X.K X.mg X.base Y.G x cn init j) (hj : j + 1 ≤ Y.lv) (hg : Gl X x) (hdb : (x == ("__debug__" : Str)) = false := by decide) : PD X Y (.Call (.Name x p) [] [] pos) (eCall (mkD cn init) aNil) := fun k => by
  obtain ⟨f, fd, ps, F, hk, hm, hb, hc⟩ := M
  exact impPE (pe_make0D (E := WE Y.E) hk F (k.rm.mono hj) hg hm hb (fun σ => passAt k.tk σ) hdb) fun σ H Q h => make_imp hc σ H Q (fun σ H Q ⟨O, ρ, s, q⟩ => q [] H (Same.refl H) rfl) h
def PDK (X : Cx) (Y : Cy) (kws : List Keyword) (f : DA) : Prop := Lk X Y → PK X kws (tDA Y f)
theorem impPK {X : Cx} {kws : List Keyword} {t t' : TA} (h : PK X kws t) (i : ∀ σ H Q, t' σ H Q → t σ H Q) : PK X kws t' := ⟨fun p pins s σ H Q I q => h.run p pins s σ H Q I (i σ H Q q)⟩
theorem dk_nil : PDK X Y [] aNil := fun k => impPK pk_nil fun σ H Q ⟨O, ρ, s, q⟩ => q [] H (Same.refl H) rfl
theorem dk_cons {kws : List Keyword} {nm : Option Str} {kpos : Pos} (ha : PD X Y a fa) (hr : PDK X Y kws fs) : PDK X Y (⟨nm, a, kpos⟩ :: kws) (aCons fa fs) := fun k => impPK (pk_cons (ha k) (hr k)) fun σ H Q ⟨O, ρ, s, q⟩ => by
  refine ⟨O, ρ, s, ?_⟩
  unfold aCons at q
  cases ea : fa ρ with
  | ex e => rw [ea] at q; exact q
  | no => rw [ea] at q; exact q
  | ok dx =>
    rw [ea] at q
    simp only [R.bind_ok] at q
    intro x H1 s1 rx
    refine ⟨O, ρ, s.same s1, ?_⟩
    cases eb : fs ρ with
    | ex e => rw [eb] at q; exact ex_fwd s1 q
    | no => rw [eb] at q; exact q
    | ok ds =>
      rw [eb] at q
      intro vs H2 s2 rs
      exact q _ H2 (s1.trans s2) (RepL.cons (rx.same s2) rs)
/-- C(.., k = v, ..) by data -/
def eMkK (n m : Nat) (cn : String) (gD : List D → List D → List D) (init : D → List D → R (D × D)) (as ks : DA) : DE := fun ρ => (as ρ).bind fun xs => (ks ρ).bind fun ys => if xs.length = n ∧ ys.length = m then mkD cn init (gD xs ys) else .no
theorem pd_makeK {cn : String} {ks : List Str} {gD : List D → List D → List D} {kws : List Keyword} {fk : DA} (M : CkK X.prog X.w X.K X.mg X.base Y.G x cn n ks gD init j) (hj : j + 1 ≤ Y.lv) (hg : Gl X x) (ha : PDA X Y (e :: es) fs) (hkw : PDK X Y kws fk)
    (hall : (backToKw pos (keywordEach kws X.env)).all (·.1.isSome) = true := by rfl) (hks : (backToKw pos (keywordEach kws X.env)).filterMap (·.1) = ks := by rfl) (hdb : (x == ("__debug__" : Str)) = false := by decide)
    (he : starEach (e :: es) X.env = (false, eval e X.env) :: starEach es X.env := by rfl) (hpl : ((backTo pos (starEach (e :: es) X.env)).any (·.1) || (backToKw pos (keywordEach kws X.env)).any (·.1.isNone)) = false := by rfl) :
    PD X Y (.Call (.Name x p) (e :: es) kws pos) (eMkK n ks.length cn gD init fs fk) := fun k => by
  obtain ⟨f, fd, ps, g, gV, F, hk, hm, hb, hc, hr⟩ := M
  refine impPE (pe_makeKD (E := WE Y.E) hk F (k.rm.mono hj) hg hm hb (fun σ => passAt k.tk σ) (ha k) (hkw k) hall hks hdb he hpl) fun σ H Q h => ?_
  obtain ⟨O, ρ, s, q⟩ := h
  refine ⟨O, ρ, s, ?_⟩
  unfold eMkK at q
  cases ea : fs ρ with
  | ex e => rw [ea] at q; exact q
  | no => rw [ea] at q; exact q
  | ok ds =>
    rw [ea] at q
    simp only [R.bind_ok] at q
    intro vs H1 s1 rs
    refine ⟨O, ρ, s.same s1, ?_⟩
    cases eb : fk ρ with
    | ex e => rw [eb] at q; exact ex_fwd s1 q
    | no => rw [eb] at q; exact q
    | ok es' =>
      rw [eb] at q
      simp only [R.bind_ok] at q
      intro zs H2 s2 rz
      split at q
      · rename_i hl
        refine ⟨rs.length.symm.trans hl.1, rz.length.symm.trans hl.2, fun x dx hx hd ne => ?_⟩
        exact make_of hc (s.same (s1.trans s2)) (hr _ _ _ _ _ _ hl.1 hl.2 (rs.same s2) rz) (EPost.fwd (s1.trans s2) q) x dx hx hd ne
      · exact q.elim
end
end Tw

set_option maxHeartbeats 2000000
namespace Tw
open PySem PySem.Spec L2
open PyProof.Rows hiding St
section
variable {Y : Cy} {O : Addr → Prop} {ρ : DEnv} {σ : L2.St} {H H' : Hp} {α : Nat → Addr}
theorem isOwn_lt (h : isOwn ρ i) : i < ρ.length := by
  obtain ⟨d, h | h | h⟩ := h <;> exact (List.getElem?_eq_some_iff.mp h).1
theorem isOwn_none {i : Nat} (h : ρ[i]? = some none) : ¬ isOwn ρ i := fun ⟨d, k⟩ => by
  rcases k with k | k | k <;> rw [h] at k <;> cases k
theorem isOwn_val {i : Nat} {d : D} (h : ρ[i]? = some (some (.val d))) : ¬ isOwn ρ i := fun ⟨d, k⟩ => by
  rcases k with k | k | k <;> rw [h] at k <;> cases k
theorem set_at {i j : Nat} {x : Option Slot} {y : Option Slot} (h : (ρ.set i x)[j]? = some y) : (j = i ∧ y = x) ∨ (j ≠ i ∧ ρ[j]? = some y) := by
  by_cases e : j = i
  · subst e
    have hl : j < (ρ.set j x).length := (List.getElem?_eq_some_iff.mp h).1
    rw [List.length_set] at hl
    rw [List.getElem?_set_self hl] at h
    exact .inl ⟨rfl, (Option.some.inj h).symm⟩
  · rw [List.getElem?_set_ne (Ne.symm e)] at h
    exact .inr ⟨e, h⟩
theorem isOwn_set {i j : Nat} {x : Option Slot} (h : isOwn (ρ.set i x) j) : (j = i ∧ ∃ d, x = some (.own d) ∨ x = some (.slf d) ∨ x = some (.gho d)) ∨ (j ≠ i ∧ isOwn ρ j) := by
  obtain ⟨d, h⟩ := h
  rcases h with h | h | h
  all_goals
    rcases set_at h with ⟨e, q⟩ | ⟨e, q⟩
  · exact .inl ⟨e, d, .inl q.symm⟩
  · exact .inr ⟨e, d, .inl q⟩
  · exact .inl ⟨e, d, .inr (.inl q.symm)⟩
  · exact .inr ⟨e, d, .inr (.inl q)⟩
  · exact .inl ⟨e, d, .inr (.inr q.symm)⟩
  · exact .inr ⟨e, d, .inr (.inr q)⟩
theorem RepG.weak {G : Gc} {Z Z' : Addr → Prop} {ρ ρ' : DEnv} (z : ∀ a, Z' a → Z a) (g : ∀ (j : Nat) d, ρ[j]? = some (some (.gho d)) → ∃ d', ρ'[j]? = some (some (.gho d'))) {d : D} {v : V} (h : RepG G Z α ρ H d v) : RepG G Z' α ρ' H d v := by
  cases d with
  | gst j => obtain ⟨e, d', k⟩ := h; exact ⟨e, g j d' k⟩
  | _ => exact Rep.weak z h
theorem RepGL.weak {G : Gc} {Z Z' : Addr → Prop} {ρ ρ' : DEnv} (z : ∀ a, Z' a → Z a) (g : ∀ (j : Nat) d, ρ[j]? = some (some (.gho d)) → ∃ d', ρ'[j]? = some (some (.gho d'))) : ∀ {ds : List D} {vs : List V}, RepGL G Z α ρ H ds vs → RepGL G Z' α ρ' H ds vs
  | [], vs, h => h
  | d :: ds, vs, h => by
    obtain ⟨v, r, e, h1, h2⟩ := h
    exact ⟨v, r, e, RepG.weak z g h1, RepGL.weak z g h2⟩
theorem RepW.weak {G : Gc} {Z Z' : Addr → Prop} (z : ∀ a, Z' a → Z a) {d : D} {v : V} (h : RepW G Z H d v) : RepW G Z' H d v := by
  cases d with
  | lst l => obtain ⟨a, vs, e, t, r⟩ := h; exact ⟨a, vs, e, t, r.weak z⟩
  | dct ks l => obtain ⟨a, vs, e, t, k, r⟩ := h; exact ⟨a, vs, e, t, k, r.weak z⟩
  | obj c ks l => obtain ⟨a, dx, vs, e, t, k, r⟩ := h; exact ⟨a, dx, vs, e, t, k, r.weak z⟩
  | _ => exact Rep.weak z h
/-- a name that holds a value or a container of the def's is forgotten -/
theorem SR.clr {i : Nat} (s : SR Y O ρ σ H) (hi : ∃ x, ρ[i]? = some x ∧ (∀ d, x ≠ some (.slf d)) ∧ ∀ d, x ≠ some (.gho d)) : ∃ O', (∀ a, O' a → O a) ∧ SR Y O' (ρ.set i none) σ H ∧ (¬ isOwn ρ i → ∀ a, O a → O' a) := by
  obtain ⟨α, s⟩ := s
  obtain ⟨x, hx, n1, n2⟩ := hi
  have sub : ∀ j, isOwn (ρ.set i none) j → isOwn ρ j := fun j h => by
    rcases isOwn_set h with ⟨_, d, k | k | k⟩ | ⟨_, k⟩
    · cases k
    · cases k
    · cases k
    · exact k
  have zz : ∀ a, Zo Y.Ze (fun a => ∃ j, isOwn (ρ.set i none) j ∧ α j = a) a → Zo Y.Ze O a := fun a z => z.elim .inl fun ⟨j, k, e⟩ => .inr ((s.oeq a).mpr ⟨j, sub j k, e⟩)
  refine ⟨fun a => ∃ j, isOwn (ρ.set i none) j ∧ α j = a, fun a ⟨j, k, e⟩ => (s.oeq a).mpr ⟨j, sub j k, e⟩, ⟨α, ?_⟩, fun ni a h => ?_⟩
  rotate_left
  · obtain ⟨j, hj, e⟩ := (s.oeq a).mp h
    have hji : j ≠ i := fun e => ni (e ▸ hj)
    obtain ⟨d, hj⟩ := hj
    refine ⟨j, ⟨d, ?_⟩, e⟩
    rw [List.getElem?_set_ne (Ne.symm hji)]
    exact hj
  refine ⟨by rw [List.length_set]; exact s.len, fun j d e => ?_, fun j d e => ?_, fun j d e => ?_, fun j d e => ?_, fun j k hj hk e => s.inj j k (sub j hj) (sub k hk) e, fun a => Iff.rfl, s.zt, fun a ⟨j, k, e⟩ => s.ot a ((s.oeq a).mpr ⟨j, sub j k, e⟩)⟩
  · rcases set_at e with ⟨_, q⟩ | ⟨_, q⟩
    · cases q
    · obtain ⟨v, e1, r⟩ := s.val j d q
      exact ⟨v, e1, r.weak zz⟩
  · rcases set_at e with ⟨_, q⟩ | ⟨_, q⟩
    · cases q
    · obtain ⟨e1, n, r⟩ := s.own j d q
      exact ⟨e1, n, r.weak zz⟩
  · rcases set_at e with ⟨_, q⟩ | ⟨_, q⟩
    · cases q
    · obtain ⟨e1, n, c, ks, l, dx, vs, e2, e3, e4, r⟩ := s.slf j d q
      refine ⟨e1, n, c, ks, l, dx, vs, e2, e3, e4, r.weak zz fun k d' hk => ?_⟩
      by_cases hki : k = i
      · subst hki
        rw [hx] at hk
        exact absurd (Option.some.inj hk) (n2 d')
      · exact ⟨d', by rw [List.getElem?_set_ne (Ne.symm hki)]; exact hk⟩
  · rcases set_at e with ⟨_, q⟩ | ⟨_, q⟩
    · cases q
    · obtain ⟨r, k⟩ := s.gho j d q
      exact ⟨r.weak zz, k⟩
/-- a name that holds nothing gets a value -/
theorem SR.putv {i : Nat} {d : D} {v : V} (s : SR Y O ρ σ H) (hi : ρ[i]? = some none) (hn : i < Y.n) (r : Rep Y.G (Zo Y.Ze O) H d v) : SR Y O (ρ.set i (some (.val d))) (σ.set i (some v)) H := by
  obtain ⟨α, s⟩ := s
  have sub : ∀ j, isOwn (ρ.set i (some (.val d))) j ↔ isOwn ρ j := fun j => by
    refine ⟨fun h => ?_, fun h => ?_⟩
    · rcases isOwn_set h with ⟨_, d, k | k | k⟩ | ⟨_, k⟩
      · cases k
      · cases k
      · cases k
      · exact k
    · have hj : j ≠ i := fun e => isOwn_none hi (e ▸ h)
      obtain ⟨d', h⟩ := h
      refine ⟨d', ?_⟩
      rw [List.getElem?_set_ne (Ne.symm hj)]
      exact h
  have hσ : i < σ.length := by rw [s.len.1]; exact hn
  refine ⟨α, by rw [List.length_set, List.length_set]; exact s.len, fun j d' e => ?_, fun j d' e => ?_, fun j d' e => ?_, fun j d' e => ?_, fun j k hj hk e => s.inj j k ((sub j).mp hj) ((sub k).mp hk) e, fun a => ?_, s.zt, s.ot⟩
  · rcases set_at e with ⟨rfl, q⟩ | ⟨hj, q⟩
    · cases q
      exact ⟨v, List.getElem?_set_self hσ, r⟩
    · obtain ⟨v, e1, r⟩ := s.val j d' q
      exact ⟨v, by rw [List.getElem?_set_ne (Ne.symm hj)]; exact e1, r⟩
  · rcases set_at e with ⟨rfl, q⟩ | ⟨hj, q⟩
    · cases q
    · obtain ⟨e1, n, r⟩ := s.own j d' q
      exact ⟨by rw [List.getElem?_set_ne (Ne.symm hj)]; exact e1, n, r⟩
  · rcases set_at e with ⟨rfl, q⟩ | ⟨hj, q⟩
    · cases q
    · obtain ⟨e1, n, c, ks, l, dx, vs, e2, e3, e4, r⟩ := s.slf j d' q
      refine ⟨by rw [List.getElem?_set_ne (Ne.symm hj)]; exact e1, n, c, ks, l, dx, vs, e2, e3, e4, r.weak (fun _ z => z) fun k d'' hk => ?_⟩
      by_cases hki : k = i
      · subst hki
        rw [hi] at hk
        cases hk
      · exact ⟨d'', by rw [List.getElem?_set_ne (Ne.symm hki)]; exact hk⟩
  · rcases set_at e with ⟨rfl, q⟩ | ⟨hj, q⟩
    · cases q
    · exact s.gho j d' q
  · rw [s.oeq]
    exact ⟨fun ⟨j, k, e⟩ => ⟨j, (sub j).mpr k, e⟩, fun ⟨j, k, e⟩ => ⟨j, (sub j).mp k, e⟩⟩
theorem RepW.mono {G : Gc} {Z Z' : Addr → Prop} (s : Same H H') (z : ∀ a, Z' a → Z a ∨ H a = none) {d : D} {v : V} (h : RepW G Z H d v) : RepW G Z' H' d v := by
  cases d with
  | lst l => obtain ⟨a, vs, e, t, r⟩ := h; exact ⟨a, vs, e, s _ _ t, r.mono (Same.sub s) z⟩
  | dct ks l => obtain ⟨a, vs, e, t, k, r⟩ := h; exact ⟨a, vs, e, s _ _ t, k, r.mono (Same.sub s) z⟩
  | obj c ks l => obtain ⟨a, dx, vs, e, t, k, r⟩ := h; exact ⟨a, dx, vs, e, s _ _ t, k, r.mono (Same.sub s) z⟩
  | _ => exact Rep.mono (Same.sub s) z h
theorem RepGL.mono {G : Gc} {Z Z' : Addr → Prop} {ρ ρ' : DEnv} {α' : Nat → Addr} (s : Same H H') (z : ∀ a, Z' a → Z a ∨ H a = none) (g : ∀ (j : Nat) d, ρ[j]? = some (some (.gho d)) → α' j = α j ∧ ∃ d', ρ'[j]? = some (some (.gho d'))) :
    ∀ {ds : List D} {vs : List V}, RepGL G Z α ρ H ds vs → RepGL G Z' α' ρ' H' ds vs
  | [], vs, h => h
  | d :: ds, vs, h => by
    obtain ⟨v, r, e, h1, h2⟩ := h
    refine ⟨v, r, e, ?_, RepGL.mono s z g h2⟩
    cases d with
    | gst j => obtain ⟨e, d', k⟩ := h1; obtain ⟨e2, d2⟩ := g j d' k; exact ⟨by rw [e2]; exact e, d2⟩
    | _ => exact Rep.mono (Same.sub s) z h1
/-- .. a container of its own -/
theorem SR.puto {i : Nat} {d : D} {p : Addr} (s : SR Y O ρ σ H) (sm : Same H H') (hp0 : H p = none) (hi : ρ[i]? = some none) (hn : i < Y.n) (hp : H' p ≠ none) (r : RepW Y.G (fun a => Zo Y.Ze O a ∨ a = p) H' d (.ref p)) :
    SR Y (fun a => O a ∨ a = p) (ρ.set i (some (.own d))) (σ.set i (some (.ref p))) H' := by
  have zt := s.zt
  obtain ⟨α, s⟩ := s
  have hz : ¬ Zo Y.Ze O p := fun z => zt p z hp0
  have hσ : i < σ.length := by rw [s.len.1]; exact hn
  have hl : i < ρ.length := (List.getElem?_eq_some_iff.mp hi).1
  have sub : ∀ j, isOwn (ρ.set i (some (.own d))) j ↔ j = i ∨ isOwn ρ j := fun j => by
    refine ⟨fun h => ?_, fun h => ?_⟩
    · rcases isOwn_set h with ⟨e, _⟩ | ⟨_, k⟩
      · exact .inl e
      · exact .inr k
    · by_cases hj : j = i
      · subst hj
        exact ⟨d, .inl (List.getElem?_set_self hl)⟩
      · rcases h with h | h
        · exact absurd h hj
        · obtain ⟨d', h⟩ := h
          refine ⟨d', ?_⟩
          rw [List.getElem?_set_ne (Ne.symm hj)]
          exact h
  have zz : ∀ a, Zo Y.Ze (fun a => O a ∨ a = p) a → Zo Y.Ze O a ∨ H a = none := fun a z => by
    rcases z with z | z | rfl
    · exact .inl (.inl z)
    · exact .inl (.inr z)
    · exact .inr hp0
  have aj : ∀ j, isOwn ρ j → (if j = i then p else α j) = α j ∧ α j ≠ p := fun j h => by
    have hj : j ≠ i := fun e => isOwn_none hi (e ▸ h)
    exact ⟨if_neg hj, fun e => hz (.inr (e ▸ (s.oeq _).mpr ⟨j, h, rfl⟩))⟩
  refine ⟨fun j => if j = i then p else α j, by rw [List.length_set, List.length_set]; exact s.len, fun j d' e => ?_, fun j d' e => ?_, fun j d' e => ?_, fun j d' e => ?_, fun j k hj hk e => ?_, fun a => ?_, fun a z q => s.zt a z (sm.free q), fun a z => ?_⟩
  · rcases set_at e with ⟨rfl, q⟩ | ⟨hj, q⟩
    · cases q
    · obtain ⟨v, e1, r⟩ := s.val j d' q
      exact ⟨v, by rw [List.getElem?_set_ne (Ne.symm hj)]; exact e1, r.mono (Same.sub sm) zz⟩
  · rcases set_at e with ⟨rfl, q⟩ | ⟨hj, q⟩
    · cases q
      rw [if_pos rfl]
      exact ⟨List.getElem?_set_self hσ, fun z => hz (.inl z), r.weak fun a z => by rcases z with z | z | z; exact .inl (.inl z); exact .inl (.inr z); exact .inr z⟩
    · obtain ⟨e1, n, r⟩ := s.own j d' q
      rw [if_neg hj]
      exact ⟨by rw [List.getElem?_set_ne (Ne.symm hj)]; exact e1, n, r.mono sm zz⟩
  · rcases set_at e with ⟨rfl, q⟩ | ⟨hj, q⟩
    · cases q
    · obtain ⟨e1, n, c, ks, l, dx, vs, e2, e3, e4, r⟩ := s.slf j d' q
      rw [if_neg hj]
      refine ⟨by rw [List.getElem?_set_ne (Ne.symm hj)]; exact e1, n, c, ks, l, dx, vs, e2, sm _ _ e3, e4, RepGL.mono sm zz (fun k d'' hk => ?_) r⟩
      have hki : k ≠ i := fun e => by subst e; rw [hi] at hk; cases hk
      exact ⟨if_neg hki, d'', by rw [List.getElem?_set_ne (Ne.symm hki)]; exact hk⟩
  · rcases set_at e with ⟨rfl, q⟩ | ⟨hj, q⟩
    · cases q
    · obtain ⟨r, k⟩ := s.gho j d' q
      rw [if_neg hj]
      exact ⟨r.mono sm zz, k⟩
  · rcases (sub j).mp hj with rfl | hj'
    · rcases (sub k).mp hk with rfl | hk'
      · rfl
      · have e : p = if k = j then p else α k := by rw [if_pos rfl] at e; exact e
        rw [(aj k hk').1] at e
        exact absurd e.symm (aj k hk').2
    · rcases (sub k).mp hk with rfl | hk'
      · have e : (if j = k then p else α j) = p := by rw [if_pos (rfl : k = k)] at e; exact e
        rw [(aj j hj').1] at e
        exact absurd e (aj j hj').2
      · have e : (if j = i then p else α j) = if k = i then p else α k := e
        rw [(aj j hj').1, (aj k hk').1] at e
        exact s.inj j k hj' hk' e
  · refine ⟨fun h => ?_, fun ⟨j, h, e⟩ => ?_⟩
    · rcases h with h | rfl
      · obtain ⟨j, hj, e⟩ := (s.oeq a).mp h
        exact ⟨j, (sub j).mpr (.inr hj), (aj j hj).1.trans e⟩
      · exact ⟨i, (sub i).mpr (.inl rfl), if_pos rfl⟩
    · have e : (if j = i then p else α j) = a := e
      rcases (sub j).mp h with rfl | h
      · rw [if_pos rfl] at e
        exact .inr e.symm
      · rw [(aj j h).1] at e
        exact .inl ((s.oeq a).mpr ⟨j, h, e⟩)
  · rcases z with z | rfl
    · exact fun q => s.ot a z (sm.free q)
    · exact hp
/-- the container is given out -/
theorem SR.frz {i : Nat} {d : D} (s : SR Y O ρ σ H) (hi : ρ[i]? = some (some (.own d))) : ∃ O', (∀ a, O' a → O a) ∧ SR Y O' (ρ.set i (some (.val d))) σ H ∧ ∀ a, O a → O' a ∨ RepW Y.G (Zo Y.Ze O) H d (.ref a) := by
  obtain ⟨α, s⟩ := s
  have hl : i < ρ.length := (List.getElem?_eq_some_iff.mp hi).1
  obtain ⟨ei, ni, ri⟩ := s.own i d hi
  have sub : ∀ j, isOwn (ρ.set i (some (.val d))) j → isOwn ρ j ∧ j ≠ i := fun j h => by
    rcases isOwn_set h with ⟨_, d, k | k | k⟩ | ⟨n, k⟩
    · cases k
    · cases k
    · cases k
    · exact ⟨k, n⟩
  have zz : ∀ a, Zo Y.Ze (fun a => ∃ j, isOwn (ρ.set i (some (.val d))) j ∧ α j = a) a → Zo Y.Ze O a := fun a z => z.elim .inl fun ⟨j, k, e⟩ => .inr ((s.oeq a).mpr ⟨j, (sub j k).1, e⟩)
  have nz : ¬ Zo Y.Ze (fun a => ∃ j, isOwn (ρ.set i (some (.val d))) j ∧ α j = a) (α i) := fun z => by
    rcases z with z | ⟨j, k, e⟩
    · exact ni z
    · exact (sub j k).2 (s.inj j i (sub j k).1 ⟨d, .inl hi⟩ e)
  have rv : Rep Y.G (Zo Y.Ze fun a => ∃ j, isOwn (ρ.set i (some (.val d))) j ∧ α j = a) H d (.ref (α i)) := by
    have r := RepW.weak zz ri
    cases d with
    | lst l => obtain ⟨a, vs, e, t, r⟩ := r; cases e; exact ⟨_, vs, rfl, nz, t, r⟩
    | dct ks l => obtain ⟨a, vs, e, t, k, r⟩ := r; cases e; exact ⟨_, vs, rfl, nz, t, k, r⟩
    | obj c ks l => obtain ⟨a, dx, vs, e, t, k, r⟩ := r; cases e; exact ⟨_, dx, vs, rfl, nz, t, k, r⟩
    | _ => exact r
  refine ⟨fun a => ∃ j, isOwn (ρ.set i (some (.val d))) j ∧ α j = a, fun a ⟨j, k, e⟩ => (s.oeq a).mpr ⟨j, (sub j k).1, e⟩, ⟨α, ?_⟩, fun a h => ?_⟩
  rotate_left
  · obtain ⟨j, hj, e⟩ := (s.oeq a).mp h
    by_cases hji : j = i
    · subst hji
      exact .inr (e ▸ ri)
    · obtain ⟨d', hj⟩ := hj
      refine .inl ⟨j, ⟨d', ?_⟩, e⟩
      rw [List.getElem?_set_ne (Ne.symm hji)]
      exact hj
  refine ⟨by rw [List.length_set]; exact s.len, fun j d' e => ?_, fun j d' e => ?_, fun j d' e => ?_, fun j d' e => ?_, fun j k hj hk e => s.inj j k (sub j hj).1 (sub k hk).1 e, fun a => Iff.rfl, s.zt, fun a ⟨j, k, e⟩ => s.ot a ((s.oeq a).mpr ⟨j, (sub j k).1, e⟩)⟩
  · rcases set_at e with ⟨rfl, q⟩ | ⟨_, q⟩
    · cases q
      exact ⟨_, ei, rv⟩
    · obtain ⟨v, e1, r⟩ := s.val j d' q
      exact ⟨v, e1, r.weak zz⟩
  · rcases set_at e with ⟨_, q⟩ | ⟨_, q⟩
    · cases q
    · obtain ⟨e1, n, r⟩ := s.own j d' q
      exact ⟨e1, n, r.weak zz⟩
  · rcases set_at e with ⟨_, q⟩ | ⟨_, q⟩
    · cases q
    · obtain ⟨e1, n, c, ks, l, dx, vs, e2, e3, e4, r⟩ := s.slf j d' q
      refine ⟨e1, n, c, ks, l, dx, vs, e2, e3, e4, r.weak zz fun k d'' hk => ?_⟩
      have hki : k ≠ i := fun e => by subst e; rw [hi] at hk; cases hk
      exact ⟨d'', by rw [List.getElem?_set_ne (Ne.symm hki)]; exact hk⟩
  · rcases set_at e with ⟨_, q⟩ | ⟨_, q⟩
    · cases q
    · obtain ⟨r, k⟩ := s.gho j d' q
      exact ⟨r.weak zz, k⟩
/-- the name's container is changed in its place -/
theorem SR.mut {i : Nat} {d d' : D} {o : HO} (s : SR Y O ρ σ H) (hi : ρ[i]? = some (some (.own d))) (k : ∀ p, σ[i]? = some (some (.ref p)) → RepW Y.G (Zo Y.Ze O) H d (.ref p) → H p ≠ none → O p → RepW Y.G (Zo Y.Ze O) (upd H p o) d' (.ref p)) :
    ∃ p, σ[i]? = some (some (.ref p)) ∧ O p ∧ RepW Y.G (Zo Y.Ze O) H d (.ref p) ∧ SR Y O (ρ.set i (some (.own d'))) σ (upd H p o) := by
  obtain ⟨α, s⟩ := s
  have hl : i < ρ.length := (List.getElem?_eq_some_iff.mp hi).1
  obtain ⟨ei, ni, ri⟩ := s.own i d hi
  have oi : isOwn ρ i := ⟨d, .inl hi⟩
  have Oi : O (α i) := (s.oeq _).mpr ⟨i, oi, rfl⟩
  have hne := s.ot _ Oi
  have sub : ∀ j, isOwn (ρ.set i (some (.own d'))) j ↔ isOwn ρ j := fun j => by
    refine ⟨fun h => ?_, fun h => ?_⟩
    · rcases isOwn_set h with ⟨e, _⟩ | ⟨_, k⟩
      · rw [e]; exact oi
      · exact k
    · by_cases hj : j = i
      · subst hj
        exact ⟨d', .inl (List.getElem?_set_self hl)⟩
      · obtain ⟨d'', h⟩ := h
        refine ⟨d'', ?_⟩
        rw [List.getElem?_set_ne (Ne.symm hj)]
        exact h
  have sb : Sub (Zo Y.Ze O) H (upd H (α i) o) := fun a u n e => by
    rw [upd_ne fun q => n (.inr (by rw [q]; exact Oi))]
    exact e
  have an : ∀ j, isOwn ρ j → j ≠ i → α j ≠ α i := fun j h n e => n (s.inj j i h oi e)
  have rw' : ∀ {d : D} {p : Addr}, p ≠ α i → RepW Y.G (Zo Y.Ze O) H d (.ref p) → RepW Y.G (Zo Y.Ze O) (upd H (α i) o) d (.ref p) := fun {d p} hp r => by
    cases d with
    | lst l => obtain ⟨a, vs, e, t, r⟩ := r; cases e; exact ⟨_, vs, rfl, by rw [upd_ne hp]; exact t, r.mono sb fun _ q => .inl q⟩
    | dct ks l => obtain ⟨a, vs, e, t, k, r⟩ := r; cases e; exact ⟨_, vs, rfl, by rw [upd_ne hp]; exact t, k, r.mono sb fun _ q => .inl q⟩
    | obj c ks l => obtain ⟨a, dx, vs, e, t, k, r⟩ := r; cases e; exact ⟨_, dx, vs, rfl, by rw [upd_ne hp]; exact t, k, r.mono sb fun _ q => .inl q⟩
    | _ => exact Rep.mono sb (fun _ q => .inl q) r
  have gl : ∀ {ds : List D} {vs : List V}, RepGL Y.G (Zo Y.Ze O) α ρ H ds vs → RepGL Y.G (Zo Y.Ze O) α (ρ.set i (some (.own d'))) (upd H (α i) o) ds vs := by
    intro ds
    induction ds with
    | nil => intro vs h; exact h
    | cons d ds ih =>
      intro vs h
      obtain ⟨v, r, e, h1, h2⟩ := h
      refine ⟨v, r, e, ?_, ih h2⟩
      cases d with
      | gst j =>
        obtain ⟨e, d'', kk⟩ := h1
        have hki : j ≠ i := fun e => by subst e; rw [hi] at kk; cases kk
        exact ⟨e, d'', by rw [List.getElem?_set_ne (Ne.symm hki)]; exact kk⟩
      | _ => exact Rep.mono sb (fun _ q => .inl q) h1
  refine ⟨α i, ei, Oi, ri, α, by rw [List.length_set]; exact s.len, fun j d'' e => ?_, fun j d'' e => ?_, fun j d'' e => ?_, fun j d'' e => ?_, fun j k hj hk e => s.inj j k ((sub j).mp hj) ((sub k).mp hk) e, fun a => ?_, fun a z q => ?_, fun a z q => ?_⟩
  · rcases set_at e with ⟨_, q⟩ | ⟨_, q⟩
    · cases q
    · obtain ⟨v, e1, r⟩ := s.val j d'' q
      exact ⟨v, e1, r.mono sb fun _ q => .inl q⟩
  · rcases set_at e with ⟨rfl, q⟩ | ⟨hj, q⟩
    · cases q
      exact ⟨ei, ni, k _ ei ri hne Oi⟩
    · obtain ⟨e1, n, r⟩ := s.own j d'' q
      exact ⟨e1, n, rw' (an j ⟨d'', .inl q⟩ hj) r⟩
  · rcases set_at e with ⟨_, q⟩ | ⟨hj, q⟩
    · cases q
    · obtain ⟨e1, n, c, ks, l, dx, vs, e2, e3, e4, r⟩ := s.slf j d'' q
      exact ⟨e1, n, c, ks, l, dx, vs, e2, by rw [upd_ne (an j ⟨d'', .inr (.inl q)⟩ hj)]; exact e3, e4, gl r⟩
  · rcases set_at e with ⟨_, q⟩ | ⟨hj, q⟩
    · cases q
    · obtain ⟨r, k⟩ := s.gho j d'' q
      exact ⟨rw' (an j ⟨d'', .inr (.inr q)⟩ hj) r, k⟩
  · rw [s.oeq]
    exact ⟨fun ⟨j, k, e⟩ => ⟨j, (sub j).mpr k, e⟩, fun ⟨j, k, e⟩ => ⟨j, (sub j).mp k, e⟩⟩
  · by_cases h : a = α i
    · subst h; rw [upd_same] at q; cases q
    · rw [upd_ne h] at q; exact s.zt a z q
  · by_cases h : a = α i
    · subst h; rw [upd_same] at q; cases q
    · rw [upd_ne h] at q; exact s.ot a z q
end
end Tw

set_option maxHeartbeats 2000000
namespace Tw
open PySem PySem.Spec L2
open PyProof.Rows hiding St
section
variable {X : Cx} {Y : Cy} {O : Addr → Prop} {ρ : DEnv} {σ : L2.St} {H H' : Hp} {α : Nat → Addr}
theorem Stp.drop {O O' : Addr → Prop} {H : Hp} (h : ∀ a, O' a → O a) : Stp O H O' H := ⟨fun _ _ _ e => e, fun a z => .inl (h a z)⟩
/-- the old content goes -/
theorem SR.free {i : Nat} (s : SR Y O ρ σ H) (hi : ∃ x, ρ[i]? = some x ∧ (∀ d, x ≠ some (.slf d)) ∧ ∀ d, x ≠ some (.gho d)) : ∃ O', Stp O H O' H ∧ SR Y O' (ρ.set i none) σ H ∧ (ρ.set i none)[i]? = some none ∧ (∀ a, O' a → O a) ∧ (¬ isOwn ρ i → ∀ a, O a → O' a) := by
  obtain ⟨O', h, s', ho⟩ := s.clr hi
  obtain ⟨x, hx, _⟩ := hi
  exact ⟨O', Stp.drop h, s', List.getElem?_set_self (List.getElem?_eq_some_iff.mp hx).1, h, ho⟩
theorem set_set {α : Type} (l : List α) (i : Nat) (a b : α) : (l.set i a).set i b = l.set i b := by simp
theorem setV_ok {i : Nat} {d : D} {ρ ρ' : DEnv} (h : setV i d ρ = .ok ρ') : (∃ x, ρ[i]? = some x ∧ (∀ d, x ≠ some (.slf d)) ∧ ∀ d, x ≠ some (.gho d)) ∧ ρ' = ρ.set i (some (.val d)) := by
  unfold setV at h
  split at h
  · cases h
  · cases h
  · rename_i x n1 n2 e
    cases h
    exact ⟨⟨x, e, fun d q => n1 d q, fun d q => n2 d q⟩, rfl⟩
  · cases h
theorem setO_ok {i : Nat} {d : D} {ρ ρ' : DEnv} (h : setO i d ρ = .ok ρ') : (∃ x, ρ[i]? = some x ∧ (∀ d, x ≠ some (.slf d)) ∧ ∀ d, x ≠ some (.gho d)) ∧ ρ' = ρ.set i (some (.own d)) := by
  unfold setO at h
  split at h
  · cases h
  · cases h
  · rename_i x n1 n2 e
    cases h
    exact ⟨⟨x, e, fun d q => n1 d q, fun d q => n2 d q⟩, rfl⟩
  · cases h
theorem setV_no {i : Nat} {d : D} {ρ : DEnv} {e : Ex} (h : setV i d ρ = .ex e) : False := by
  unfold setV at h; split at h <;> cases h
theorem setO_no {i : Nat} {d : D} {ρ : DEnv} {e : Ex} (h : setO i d ρ = .ex e) : False := by
  unfold setO at h; split at h <;> cases h
theorem SR.setv {i : Nat} {d : D} {v : V} {ρ' : DEnv} (s : SR Y O ρ σ H) (h : setV i d ρ = .ok ρ') (hn : i < Y.n) (r : Rep Y.G (Zo Y.Ze O) H d v) : ∃ O', Stp O H O' H ∧ SR Y O' ρ' (σ.set i (some v)) H ∧ (∀ a, O' a → O a) ∧ (¬ isOwn ρ i → ∀ a, O a → O' a) := by
  obtain ⟨hi, rfl⟩ := setV_ok h
  obtain ⟨O', st, s', e, sub, ho⟩ := s.free hi
  refine ⟨O', st, ?_, sub, ho⟩
  have := s'.putv e hn (r.weak fun a z => z.elim .inl fun z => .inr (sub a z))
  rwa [set_set] at this
theorem SR.seto {i : Nat} {d : D} {p : Addr} {ρ' : DEnv} (s : SR Y O ρ σ H) (h : setO i d ρ = .ok ρ') (hn : i < Y.n) (sm : Same H H') (hp0 : H p = none) (hp : H' p ≠ none) (r : RepW Y.G (fun a => Zo Y.Ze O a ∨ a = p) H' d (.ref p)) :
    ∃ O', Stp O H O' H' ∧ SR Y O' ρ' (σ.set i (some (.ref p))) H' := by
  obtain ⟨hi, rfl⟩ := setO_ok h
  obtain ⟨O', st, s', e, sub, _⟩ := s.free hi
  refine ⟨fun a => O' a ∨ a = p, ⟨fun a o n q => sm a o q, fun a z => z.elim (fun z => .inl (sub a z)) fun z => .inr (by rw [z]; exact hp0)⟩, ?_⟩
  have := s'.puto sm hp0 e hn hp (r.weak fun a z => by rcases z with (z | z) | z; exact .inl (.inl z); exact .inl (.inr (sub a z)); exact .inr z)
  rwa [set_set] at this
theorem clr1_SR {i : Nat} (s : SR Y O ρ σ H) : ∃ O', Stp O H O' H ∧ SR Y O' (clr1 i ρ) σ H := by
  unfold clr1
  split
  · rename_i d e
    obtain ⟨O', st, s', _⟩ := s.free ⟨_, e, fun _ => (by intro q; cases q), fun _ => (by intro q; cases q)⟩
    exact ⟨O', st, s'⟩
  · rename_i d e
    obtain ⟨O', st, s', _⟩ := s.free ⟨_, e, fun _ => (by intro q; cases q), fun _ => (by intro q; cases q)⟩
    exact ⟨O', st, s'⟩
  · exact ⟨O, Stp.refl, s⟩
theorem clrD_SR : ∀ (is : List Nat) {O : Addr → Prop} {ρ : DEnv}, SR Y O ρ σ H → ∃ O', Stp O H O' H ∧ SR Y O' (clrD is ρ) σ H
  | [], O, ρ, s => ⟨O, Stp.refl, s⟩
  | i :: is, O, ρ, s => by
    obtain ⟨O1, st1, s1⟩ := clr1_SR (i := i) s
    obtain ⟨O2, st2, s2⟩ := clrD_SR is s1
    exact ⟨O2, st1.trans st2, s2⟩
theorem frzD_SR {i : Nat} (s : SR Y O ρ σ H) : ∃ O', Stp O H O' H ∧ SR Y O' (frzD i ρ) σ H := by
  unfold frzD
  split
  · rename_i d e
    obtain ⟨O', h, s', _⟩ := s.frz e
    exact ⟨O', Stp.drop h, s'⟩
  · exact ⟨O, Stp.refl, s⟩
theorem frzs_SR : ∀ (is : List Nat) {O : Addr → Prop} {ρ : DEnv}, SR Y O ρ σ H → ∃ O', Stp O H O' H ∧ SR Y O' (is.foldl (fun r i => frzD i r) ρ) σ H
  | [], O, ρ, s => ⟨O, Stp.refl, s⟩
  | i :: is, O, ρ, s => by
    obtain ⟨O1, st1, s1⟩ := frzD_SR (i := i) s
    obtain ⟨O2, st2, s2⟩ := frzs_SR is s1
    exact ⟨O2, st1.trans st2, s2⟩
theorem SPost.fwd {O O1 : Addr → Prop} {H H1 : Hp} {N : Ends} {r : R Out} (st : Stp O H O1 H1) (h : SPost Y O H N r) : SPost Y O1 H1 N r := by
  cases r with
  | ok o =>
    cases o with
    | nx ρ => exact fun O' σ' H' s' q => h O' σ' H' (st.trans s') q
    | bk ρ => exact fun O' σ' H' s' q => h O' σ' H' (st.trans s') q
    | ct ρ => exact fun O' σ' H' s' q => h O' σ' H' (st.trans s') q
    | rt d ρ => exact fun O' σ' H' v s' q => h O' σ' H' v (st.trans s') q
    | xx e ρ => exact fun O' σ' H' c od s' q => h O' σ' H' c od (st.trans s') q
  | ex e => exact h
  | no => exact h
/-- an expression, then something -/
theorem exp_then {fa : DE} {k : D → R Out} {N : Ends} {Q : VK} (s : SR Y O ρ σ H) (h : SPost Y O H N ((fa ρ).st ρ k)) (hq : ∀ d, fa ρ = .ok d → SPost Y O H N (k d) → ∀ v H1, Same H H1 → Rep Y.G (Zo Y.Ze O) H1 d v → Q v H1) : tD Y fa σ H Q := by
  refine ⟨O, ρ, s, ?_⟩
  cases ea : fa ρ with
  | no => rw [ea] at h; exact h
  | ex e => rw [ea] at h; exact fun c od H1 s1 xr => h O σ H1 c od (Stp.same s1) (s.same s1) xr
  | ok d => rw [ea] at h; exact fun v H1 s1 rv => hq d ea h v H1 s1 rv
theorem expw_then {fa : DE} {k : D → R Out} {N : Ends} {Q : VK} (s : SR Y O ρ σ H) (h : SPost Y O H N ((fa ρ).st ρ k)) (hq : ∀ d, fa ρ = .ok d → SPost Y O H N (k d) → ∀ v H1, Same H H1 → RepW Y.G (Zo Y.Ze O) H1 d v → Q v H1) : tDw Y fa σ H Q := by
  refine ⟨O, ρ, s, ?_⟩
  cases ea : fa ρ with
  | no => rw [ea] at h; exact h
  | ex e => rw [ea] at h; exact fun c od H1 s1 xr => h O σ H1 c od (Stp.same s1) (s.same s1) xr
  | ok d => rw [ea] at h; exact fun v H1 s1 rv => hq d ea h v H1 s1 rv
end
section
variable {X : Cx} {Y : Cy} {st : Stmt} {rest body : List Stmt} {F G1 G2 : DS} {a b e tg : Expr} {fa fb : DE} {pos pos' p2 : Pos}
theorem dss_nil : PDSs X Y [] sNext := fun k => impPSs pss_nil fun N σ H ⟨O, ρ, s, q⟩ => q O σ H Stp.refl s
theorem dss_cons (h1 : PDS X Y st F) (h2 : PDSs X Y rest G1) : PDSs X Y (st :: rest) (sSeq F G1) := fun k => impPSs (pss_cons (h1 k) (h2 k)) fun N σ H ⟨O, ρ, s, q⟩ => by
  refine ⟨O, ρ, s, ?_⟩
  unfold sSeq at q
  cases ea : F ρ with
  | ex e => rw [ea] at q; exact q
  | no => rw [ea] at q; exact q
  | ok o =>
    rw [ea] at q
    cases o with
    | nx ρ' => exact fun O' σ' H' st s' => ⟨O', ρ', s', SPost.fwd st q⟩
    | bk ρ' => exact q
    | ct ρ' => exact q
    | rt d ρ' => exact q
    | xx e ρ' => exact q
theorem dss_one (h1 : PDS X Y st F) : PDSs X Y [st] F := fun k => pss_one (h1 k)
/-- ahead of a statement containers are given out -/
theorem ds_frz (is : List Nat) (h : PDS X Y st F) : PDS X Y st (sFrz is F) := fun k => impPS (h k) fun N σ H ⟨O, ρ, s, q⟩ => by
  obtain ⟨O', st, s'⟩ := frzs_SR is s
  exact ⟨O', _, s', SPost.fwd st q⟩
theorem ds_pass : PDS X Y (.Pass pos) sNext := fun k => impPS ps_pass fun N σ H ⟨O, ρ, s, q⟩ => q O σ H Stp.refl s
theorem ds_break : PDS X Y (.Break pos) sBrk := fun k => impPS ps_break fun N σ H ⟨O, ρ, s, q⟩ => q O σ H Stp.refl s
theorem ds_continue : PDS X Y (.Continue pos) sCnt := fun k => impPS ps_continue fun N σ H ⟨O, ρ, s, q⟩ => q O σ H Stp.refl s
theorem ds_never : PDS X Y st sNever := fun k => impPS ps_never fun N σ H ⟨O, ρ, s, q⟩ => q
theorem ds_expr (ha : PD X Y a fa) (hs : swapsWith a none pos.line X.env = pure false := by rfl) : PDS X Y (.Expr a pos) (sDrop fa) := fun k => impPS (ps_expr (ha k) hs) fun N σ H ⟨O, ρ, s, q⟩ =>
  exp_then s q fun d ea q v H1 s1 rv => q O σ H1 (Stp.same s1) (s.same s1)
theorem ds_ret (ha : PD X Y a fa) : PDS X Y (.Return (some a) pos) (sRet fa) := fun k => impPS (ps_ret (ha k)) fun N σ H ⟨O, ρ, s, q⟩ =>
  exp_then s q fun d ea q v H1 s1 rv => q O σ H1 v (Stp.same s1) (s.same s1) rv
theorem ds_retN : PDS X Y (.Return none pos) sRetN := fun k => impPS ps_retN fun N σ H ⟨O, ρ, s, q⟩ => q O σ H .non Stp.refl s rfl
theorem ds_if {c : Expr} {gc : DT} {A B : List Stmt} (hc : PDT X Y c gc) (ha : PDSs X Y A G1) (hb : PDSs X Y B G2) : PDS X Y (.If c A B pos) (sIf gc G1 G2) := fun k => impPS (ps_if (hc k) (ha k) (hb k)) fun N σ H ⟨O, ρ, s, q⟩ => by
  refine ⟨O, ρ, s, ?_⟩
  unfold sIf at q
  cases ea : gc ρ with
  | no => rw [ea] at q; exact q
  | ex e => rw [ea] at q; exact fun c od H1 s1 xr => q O σ H1 c od (Stp.same s1) (s.same s1) xr
  | ok b =>
    rw [ea] at q
    intro H1 s1
    cases b with
    | true => exact ⟨O, ρ, s.same s1, SPost.fwd (Stp.same s1) q⟩
    | false => exact ⟨O, ρ, s.same s1, SPost.fwd (Stp.same s1) q⟩
theorem ds_set {i : Nat} {x : Str} (hi : X.N[i]? = some x) (hn : i < Y.n) (hx : Loc X.env.scope x) (ha : PD X Y a fa) (hs : swapsWith a (some (.Name x pos')) pos.line X.env = pure false := by rfl) (hf : X.fn x = true ∨ X.env.scope.names.lookup x = some .local := by first | exact .inl rfl | exact .inr rfl | assumption) :
    PDS X Y (.Assign [.Name x pos'] a pos) (sSet i fa) := fun k => impPS (ps_set k.nd hi hx (ha k) hs hf) fun N σ H ⟨O, ρ, s, q⟩ =>
  exp_then s q fun d ea q v H1 s1 rv => by
    cases es : setV i d ρ with
    | no => rw [es] at q; exact q.elim
    | ex e => exact (setV_no es).elim
    | ok ρ' =>
      rw [es] at q
      obtain ⟨O', st, s', _⟩ := (s.same s1).setv es hn rv
      exact q O' _ H1 ((Stp.same s1).trans st) s'
/-- an expression that makes a new container -/
def EPostF (Y : Cy) (O : Addr → Prop) (σ : L2.St) (H : Hp) (Q : VK) : R D → Prop
  | .ok d => ∀ p H', Same H H' → H p = none → H' p ≠ none → RepW Y.G (fun a => Zo Y.Ze O a ∨ a = p) H' d (.ref p) → Q (.ref p) H'
  | .ex e => ∀ c od H', Same H H' → ExRep Y.G (Zo Y.Ze O) H' e c od → Y.E c od σ H'
  | .no => False
def tDF (Y : Cy) (f : DE) : TE := fun σ H Q => ∃ O ρ, SR Y O ρ σ H ∧ EPostF Y O σ H Q (f ρ)
def PDF (X : Cx) (Y : Cy) (e : Expr) (f : DE) : Prop := Lk X Y → PE X e (tDF Y f)
theorem expf_then {O : Addr → Prop} {ρ : DEnv} {σ : L2.St} {H : Hp} {k : D → R Out} {N : Ends} {Q : VK} (s : SR Y O ρ σ H) (h : SPost Y O H N ((fa ρ).st ρ k))
    (hq : ∀ d, fa ρ = .ok d → SPost Y O H N (k d) → ∀ p H1, Same H H1 → H p = none → H1 p ≠ none → RepW Y.G (fun a => Zo Y.Ze O a ∨ a = p) H1 d (.ref p) → Q (.ref p) H1) : tDF Y fa σ H Q := by
  refine ⟨O, ρ, s, ?_⟩
  cases ea : fa ρ with
  | no => rw [ea] at h; exact h
  | ex e => rw [ea] at h; exact fun c od H1 s1 xr => h O σ H1 c od (Stp.same s1) (s.same s1) xr
  | ok d => rw [ea] at h; exact fun p H1 s1 h0 h1 rv => hq d ea h p H1 s1 h0 h1 rv
theorem ds_own {i : Nat} {x : Str} (hi : X.N[i]? = some x) (hn : i < Y.n) (hx : Loc X.env.scope x) (ha : PDF X Y a fa) (hs : swapsWith a (some (.Name x pos')) pos.line X.env = pure false := by rfl) (hf : X.fn x = true ∨ X.env.scope.names.lookup x = some .local := by first | exact .inl rfl | exact .inr rfl | assumption) :
    PDS X Y (.Assign [.Name x pos'] a pos) (sOwn i fa) := fun k => impPS (ps_set k.nd hi hx (ha k) hs hf) fun N σ H ⟨O, ρ, s, q⟩ =>
  expf_then s q fun d ea q p H1 s1 h0 h1 rv => by
    cases es : setO i d ρ with
    | no => rw [es] at q; exact q.elim
    | ex e => exact (setO_no es).elim
    | ok ρ' =>
      rw [es] at q
      obtain ⟨O', st, s'⟩ := s.seto es hn s1 h0 h1 rv
      exact q O' _ H1 st s'
theorem pf_lst {es : List Expr} {fs : DA} (ha : PDA X Y es fs) : PDF X Y (.List es pos) (eLst fs) := fun k => impPE (pe_lst (ha k)) fun σ H Q ⟨O, ρ, s, q⟩ => by
  refine ⟨O, ρ, s, ?_⟩
  unfold eLst at q
  cases ea : fs ρ with
  | no => rw [ea] at q; exact q
  | ex e => rw [ea] at q; exact q
  | ok ds =>
    rw [ea] at q
    simp only [R.bind_ok] at q
    intro vs H1 s1 rs
    split at q
    · rename_i hl
      refine ⟨by rw [lineD_eq, ← rs.length]; exact hl, fun n hn => q n _ (s1.trans (same_new hn)) (s1.free hn) (by rw [upd_same]; exact fun z => by cases z) ⟨n, _, rfl, upd_same, ?_⟩⟩
      exact rs.mono (Same.sub (same_new hn)) fun a z => z.elim .inl fun e => .inr (by rw [e]; exact hn)
    · exact q.elim
theorem pf_dict0 : PDF X Y (.Dict [] [] pos) (eC (.dct [] [])) := fun k => impPE pe_dnewK fun σ H Q ⟨O, ρ, s, q⟩ n hn =>
  q n _ (same_new hn) hn (by rw [upd_same]; exact fun z => by cases z) ⟨n, [], rfl, upd_same, rfl, rfl⟩
theorem pf_list {p : Pos} (hg : Gl X "list") (hm : X.mg "list" = none) (ha : PDw X Y a fa) (hs : starEach (a :: []) X.env = (false, eval a X.env) :: starEach [] X.env := by rfl) : PDF X Y (.Call (.Name "list" p) [a] [] pos) (e1 oList fa) := fun k =>
  impPE (pe_callTy call_list_of hg hm (by decide +kernel) (pa_cons (ha k) pa_nil hs) (he := hs)) fun σ H Q ⟨O, ρ, s, q⟩ => by
    refine ⟨O, ρ, s, ?_⟩
    unfold e1 at q
    cases ea : fa ρ with
    | no => rw [ea] at q; exact q
    | ex e => rw [ea] at q; exact q
    | ok dx =>
      rw [ea] at q
      simp only [R.bind_ok] at q
      intro x H1 s1 rx
      rw [k.K]
      unfold oList at q
      split at q
      · obtain ⟨p, vs, rfl, hp, r1⟩ := rx
        exact ⟨p, vs, rfl, .inl (SqL.of hp), fun n hn => q n _ (s1.trans (same_new hn)) (s1.free hn) (by rw [upd_same]; exact fun z => by cases z) ⟨n, _, rfl, upd_same, r1.mono (Same.sub (same_new hn)) fun a z => z.elim .inl fun e => .inr (by rw [e]; exact hn)⟩⟩
      · obtain ⟨p, vs, rfl, hp, r1⟩ := rep_tup rx
        exact ⟨p, vs, rfl, .inr hp, fun n hn => q n _ (s1.trans (same_new hn)) (s1.free hn) (by rw [upd_same]; exact fun z => by cases z) ⟨n, _, rfl, upd_same, r1.mono (Same.sub (same_new hn)) fun a z => z.elim .inl fun e => .inr (by rw [e]; exact hn)⟩⟩
      · exact q.elim
end
end Tw

set_option maxHeartbeats 2000000
namespace Tw
open PySem PySem.Spec L2
open PyProof.Rows hiding St
def WalkS (G : Gc) (Z : Addr → Prop) (H0 : Hp) (J : It) (l : List D) : Prop := ∀ (i : Nat) (H2 : Hp) (Z2 : Addr → Prop), Sub Z H0 H2 → (∀ a, Z2 a → Z a ∨ H0 a = none) →
  (∀ d, l[i]? = some d → J.go i H2 ∧ ∀ x H3, J.yld i H2 x H3 → Same H2 H3 ∧ Rep G Z2 H3 d x) ∧ (l.length ≤ i → J.stop i H2)
def WalkW (G : Gc) (Z : Addr → Prop) (H0 : Hp) (J : It) (l : List D) : Prop := ∀ (i : Nat) (H2 : Hp) (Z2 : Addr → Prop), Same H0 H2 → (∀ a, Z2 a → Z a ∨ H0 a = none) →
  (∀ d, l[i]? = some d → J.go i H2 ∧ ∀ x H3, J.yld i H2 x H3 → Same H2 H3 ∧ Rep G Z2 H3 d x) ∧ (l.length ≤ i → J.stop i H2)
theorem WalkS.w {G : Gc} {Z : Addr → Prop} {H0 : Hp} {J : It} {l : List D} (h : WalkS G Z H0 J l) : WalkW G Z H0 J l := fun i H2 Z2 s z => h i H2 Z2 (Same.sub s) z
def IPostS (Y : Cy) (O : Addr → Prop) (σ : L2.St) (H : Hp) (Q : It → Hp → Prop) : R (List D) → Prop
  | .ok l => ∀ J H', Same H H' → WalkS Y.G (Zo Y.Ze O) H' J l → Q J H'
  | .ex e => ∀ c od H', Same H H' → ExRep Y.G (Zo Y.Ze O) H' e c od → Y.E c od σ H'
  | .no => False
def IPostW (Y : Cy) (O : Addr → Prop) (σ : L2.St) (H : Hp) (Q : It → Hp → Prop) : R (List D) → Prop
  | .ok l => ∀ J H', Same H H' → WalkW Y.G (Zo Y.Ze O) H' J l → Q J H'
  | .ex e => ∀ c od H', Same H H' → ExRep Y.G (Zo Y.Ze O) H' e c od → Y.E c od σ H'
  | .no => False
def tDI (Y : Cy) (f : DI) : TI := fun σ H Q => ∃ O ρ, SR Y O ρ σ H ∧ IPostS Y O σ H Q (f ρ)
def tDIw (Y : Cy) (f : DI) : TI := fun σ H Q => ∃ O ρ, SR Y O ρ σ H ∧ IPostW Y O σ H Q (f ρ)
def PDI (X : Cx) (Y : Cy) (tg iter : Expr) (f : DI) : Prop := Lk X Y → PI X tg iter (tDI Y f)
def PDIw (X : Cx) (Y : Cy) (tg iter : Expr) (f : DI) : Prop := Lk X Y → PI X tg iter (tDIw Y f)
theorem impPI {X : Cx} {tg e : Expr} {t t' : TI} (h : PI X tg e t) (i : ∀ σ H Q, t' σ H Q → t σ H Q) : PI X tg e t' := ⟨fun pins s σ H Q I q => h.run pins s σ H Q I (i σ H Q q)⟩
theorem orPI {X : Cx} {tg e : Expr} {t u : TI} (h : PI X tg e t) (k : PI X tg e u) : PI X tg e (fun σ H Q => t σ H Q ∨ u σ H Q) := ⟨fun pins s σ H Q I q => q.elim (h.run pins s σ H Q I) (k.run pins s σ H Q I)⟩
theorem PDI.w {X : Cx} {Y : Cy} {tg e : Expr} {f : DI} (h : PDI X Y tg e f) : PDIw X Y tg e f := fun k => impPI (h k) fun σ H Q ⟨O, ρ, s, q⟩ => ⟨O, ρ, s, by
  cases e : f ρ with
  | ok l => rw [e] at q; exact fun J H' s w => q J H' s w.w
  | ex x => rw [e] at q; exact q
  | no => rw [e] at q; exact q⟩
theorem SqL.inj_of {K : PySem.W.Frag} {H : Hp} {a : Addr} {xs ys : List V} (h : H a = some (.lst xs)) (k : SqL K H a ys) (hK : ∀ o, K.lookup a = some o → False) : ys = xs := by
  rcases k with (k | ⟨o, k⟩) | ⟨o, _, _, k, _⟩
  · rw [h] at k; cases k; rfl
  · rw [h] at k; cases k
  · exact (hK o k).elim
section
variable {X : Cx} {Y : Cy} {tg e a b : Expr} {fa fb : DE} {pos p p2 : Pos}
/-- a list that stands, at each turn; K's own objects are not tracked -/
theorem walk_itl {G : Gc} {Z : Addr → Prop} {H : Hp} {p : Addr} {l : List D} {vs : List V} (i : Nat) {H2 : Hp} {Z2 : Addr → Prop} (hp : H2 p = some (.lst vs)) (hk : ∀ o, G.K.lookup p = some o → H2 p = none) (r : RepL G Z2 H2 l vs) :
    (∀ d, l[i]? = some d → (Itl G.K p).go i H2 ∧ ∀ x H3, (Itl G.K p).yld i H2 x H3 → Same H2 H3 ∧ Rep G Z2 H3 d x) ∧ (l.length ≤ i → (Itl G.K p).stop i H2) := by
  refine ⟨fun d hd => ?_, fun hl => ⟨vs, SqL.of hp, by rw [← r.length]; exact hl⟩⟩
  obtain ⟨v, hv, rv⟩ := r.get hd
  refine ⟨⟨vs, v, SqL.of hp, hv⟩, fun x H3 y => ?_⟩
  obtain ⟨rfl, y⟩ := y
  have := y vs (SqL.of hp)
  rw [hv] at this
  cases this
  exact ⟨Same.refl _, rv⟩
theorem walkS_itl {G : Gc} {Z : Addr → Prop} {H : Hp} {p : Addr} {l : List D} {vs : List V} (hz : ¬ Z p) (hp : H p = some (.lst vs)) (r : RepL G Z H l vs) : WalkS G Z H (Itl G.K p) l := fun i H2 Z2 s z => by
  have hp2 := s p _ hz hp
  refine ⟨fun d hd => ?_, fun hl => ⟨vs, SqL.of hp2, by rw [← r.length]; exact hl⟩⟩
  obtain ⟨v, hv, rv⟩ := (r.mono s z).get hd
  refine ⟨⟨vs, v, SqL.of hp2, hv⟩, fun x H3 y => ?_⟩
  obtain ⟨rfl, y⟩ := y
  have := y vs (SqL.of hp2)
  rw [hv] at this
  cases this
  exact ⟨Same.refl _, rv⟩
theorem walkW_itl {G : Gc} {Z : Addr → Prop} {H : Hp} {p : Addr} {l : List D} {vs : List V} (hp : H p = some (.lst vs)) (r : RepL G Z H l vs) : WalkW G Z H (Itl G.K p) l := fun i H2 Z2 s z => by
  have hp2 := s p _ hp
  refine ⟨fun d hd => ?_, fun hl => ⟨vs, SqL.of hp2, by rw [← r.length]; exact hl⟩⟩
  obtain ⟨v, hv, rv⟩ := (r.mono (Same.sub s) z).get hd
  refine ⟨⟨vs, v, SqL.of hp2, hv⟩, fun x H3 y => ?_⟩
  obtain ⟨rfl, y⟩ := y
  have := y vs (SqL.of hp2)
  rw [hv] at this
  cases this
  exact ⟨Same.refl _, rv⟩
theorem walkS_itt {G : Gc} {Z : Addr → Prop} {H : Hp} {p : Addr} {l : List D} (r : Rep G Z H (.tup l) (.ref p)) : WalkS G Z H (Itt G.K p) l := fun i H2 Z2 s z => by
  obtain ⟨a, vs, e, hp, r⟩ := rep_tup (Rep.mono s z r)
  cases e
  refine ⟨fun d hd => ?_, fun hl => ⟨vs, hp, by rw [← r.length]; exact hl⟩⟩
  obtain ⟨v, hv, rv⟩ := r.get hd
  refine ⟨⟨vs, v, hp, hv⟩, fun x H3 y => ?_⟩
  obtain ⟨rfl, y⟩ := y
  have := y vs hp
  rw [hv] at this
  cases this
  exact ⟨Same.refl _, rv⟩
theorem walkS_str {G : Gc} {Z : Addr → Prop} {H : Hp} {x : Str} : WalkS G Z H (Its x) (x.cps.toList.map fun c => .str ⟨#[c]⟩) := fun i H2 Z2 s z => by
  refine ⟨fun d hd => ?_, fun hl => ?_⟩
  · rw [List.getElem?_map] at hd
    obtain ⟨c, hc, rfl⟩ := Option.map_eq_some_iff.mp hd
    have hc' : x.cps[i]? = some c := by rw [← Array.getElem?_toList]; exact hc
    refine ⟨(Array.getElem?_eq_some_iff.mp hc').1, fun y H3 yl => ?_⟩
    obtain ⟨rfl, c', e, rfl⟩ := yl
    rw [hc'] at e
    cases e
    exact ⟨Same.refl _, rfl⟩
  · rw [List.length_map, Array.length_toList] at hl
    exact hl
theorem walkS_rng {G : Gc} {Z : Addr → Prop} {H : Hp} {lo : Int} {n : Nat} {l : List D} (hl : l = (List.range n).map fun i => .int (lo + Int.ofNat i)) : WalkS G Z H (Itr lo n) l := fun i H2 Z2 s z => by
  subst hl
  refine ⟨fun d hd => ?_, fun h => by rw [List.length_map, List.length_range] at h; exact h⟩
  rw [List.getElem?_map] at hd
  obtain ⟨c, hc, rfl⟩ := Option.map_eq_some_iff.mp hd
  have hi : i < n := by
    have := (List.getElem?_eq_some_iff.mp hc).1
    rwa [List.length_range] at this
  rw [List.getElem?_range hi] at hc
  cases hc
  refine ⟨hi, fun y H3 yl => ?_⟩
  obtain ⟨rfl, rfl⟩ := yl
  exact ⟨Same.refl _, rfl⟩
theorem exp_iter {α : Type} {O : Addr → Prop} {ρ : DEnv} {σ : L2.St} {H : Hp} {Q : It → Hp → Prop} {k : D → R (List D)} {R : VK} (s : SR Y O ρ σ H) (h : IPostS Y O σ H Q ((fa ρ).bind k)) (hq : ∀ d, fa ρ = .ok d → IPostS Y O σ H Q (k d) → ∀ v H1, Same H H1 → Rep Y.G (Zo Y.Ze O) H1 d v → R v H1) : tD Y fa σ H R := by
  refine ⟨O, ρ, s, ?_⟩
  cases ea : fa ρ with
  | no => rw [ea] at h; exact h
  | ex e => rw [ea] at h; exact h
  | ok d => rw [ea] at h; exact fun v H1 s1 rv => hq d ea h v H1 s1 rv
/-- for x in a, a a list, a tuple, a text -/
theorem di_of (ha : PD X Y a fa) : PDI X Y tg a (iOf fa) := fun k => by
  refine impPI (orPI (pi_list (ha k)) (orPI (pi_tup (ha k)) (pi_str (ha k)))) fun σ H Q h => ?_
  obtain ⟨O, ρ, s, q⟩ := h
  have ht : ∀ {R : VK}, (∀ d, fa ρ = .ok d → IPostS Y O σ H Q (Tw.R.of (iterD d)) → ∀ v H1, Same H H1 → Rep Y.G (Zo Y.Ze O) H1 d v → R v H1) → tD Y fa σ H R := fun h => exp_iter (α := Unit) s q h
  unfold iOf at q
  cases ea : fa ρ with
  | no => rw [ea] at q; exact q.elim
  | ex e => rw [ea] at q; exact .inl ⟨O, ρ, s, by rw [ea]; exact q⟩
  | ok d =>
    rw [ea] at q
    simp only [R.bind_ok] at q
    have one : ∀ {R : VK}, (∀ v H1, Same H H1 → Rep Y.G (Zo Y.Ze O) H1 d v → R v H1) → tD Y fa σ H R := fun h => ⟨O, ρ, s, by rw [ea]; exact h⟩
    cases d with
    | lst l =>
      refine .inl (one fun v H1 s1 rv => ?_)
      obtain ⟨p, vs, rfl, n, hp, r⟩ := rv
      refine ⟨p, rfl, ⟨vs, SqL.of hp⟩, ?_⟩
      rw [k.K]
      exact q _ H1 s1 (walkS_itl n hp r)
    | tup l =>
      refine .inr (.inl (one fun v H1 s1 rv => ?_))
      have rv' := rv
      obtain ⟨p, vs, rfl, hp, r⟩ := rep_tup rv
      rw [k.K]
      exact ⟨p, rfl, ⟨vs, hp⟩, q _ H1 s1 (walkS_itt rv')⟩
    | str x =>
      refine .inr (.inr (one fun v H1 s1 rv => ⟨x, rv, q _ H1 s1 walkS_str⟩))
    | _ => exact q.elim
/-- .. the def's own list (in a comprehension) -/
theorem di_look (ha : PDw X Y a fa) (hl : ∀ ρ d, fa ρ = .ok d → ∃ l, d = .lst l) : PDIw X Y tg a (iOf fa) := fun k => by
  refine impPI (pi_list (ha k)) fun σ H Q h => ?_
  obtain ⟨O, ρ, s, q⟩ := h
  refine ⟨O, ρ, s, ?_⟩
  unfold iOf at q
  cases ea : fa ρ with
  | no => rw [ea] at q; exact q.elim
  | ex e => rw [ea] at q; exact q
  | ok d =>
    rw [ea] at q
    simp only [R.bind_ok] at q
    obtain ⟨l, rfl⟩ := hl ρ d ea
    intro v H1 s1 rv
    obtain ⟨p, vs, rfl, hp, r⟩ := rv
    refine ⟨p, rfl, ⟨vs, SqL.of hp⟩, ?_⟩
    rw [k.K]
    exact q _ H1 s1 (walkW_itl hp r)
theorem di_range (hg : Gl X "range") (hm : X.mg "range" = none) (ha : PD X Y a fa) (hs : starEach [a] X.env = [(false, eval a X.env)] := by rfl) (hs2 : starEach (a :: []) X.env = (false, eval a X.env) :: starEach [] X.env := by rfl) : PDI X Y tg (.Call (.Name "range" p) [a] [] pos) (iRange fa) := fun k => by
  refine impPI (pi_range1 hg hm (pa_cons (ha k) pa_nil hs2) hs) fun σ H Q ⟨O, ρ, s, q⟩ => ?_
  refine ⟨O, ρ, s, ?_⟩
  unfold iRange rngR at q
  cases ea : fa ρ with
  | no => rw [ea] at q; exact q
  | ex e => rw [ea] at q; exact q
  | ok d =>
    rw [ea] at q
    simp only [R.bind_ok] at q
    intro v H1 s1 rv
    cases d with
    | int n =>
      obtain rfl : v = .int n := rv
      simp only at q
      split at q
      · rename_i hn
        exact ⟨n, rfl, (show _ ∧ _ from hn).1, (show _ ∧ _ from hn).2, q _ H1 s1 (walkS_rng (by unfold rangeD; simp))⟩
      · exact q.elim
    | _ => exact q.elim
theorem di_range2 (hg : Gl X "range") (hm : X.mg "range" = none) (ha : PD X Y a fa) (hb : PD X Y b fb) (hs : starEach [a, b] X.env = [(false, eval a X.env), (false, eval b X.env)] := by rfl) (hs2 : starEach [b] X.env = [(false, eval b X.env)] := by rfl)
    (hs3 : starEach (a :: [b]) X.env = (false, eval a X.env) :: starEach [b] X.env := by rfl) (hs4 : starEach (b :: []) X.env = (false, eval b X.env) :: starEach [] X.env := by rfl) : PDI X Y tg (.Call (.Name "range" p) [a, b] [] pos) (iRange2 fa fb) := fun k => by
  refine impPI (pi_range2 hg hm (pa_cons (ha k) (pa_cons (hb k) pa_nil hs4) hs3) hs hs2) fun σ H Q ⟨O, ρ, s, q⟩ => ?_
  refine ⟨O, ρ, s, ?_⟩
  unfold iRange2 at q
  cases ea : fa ρ with
  | no => rw [ea] at q; exact q
  | ex e => rw [ea] at q; exact q
  | ok d =>
    rw [ea] at q
    simp only [R.bind_ok] at q
    intro v H1 s1 rv
    refine ⟨O, ρ, s.same s1, ?_⟩
    cases eb : fb ρ with
    | no => rw [eb] at q; exact q
    | ex e => rw [eb] at q; exact ex_fwd s1 q
    | ok d2 =>
      rw [eb] at q
      simp only [R.bind_ok] at q
      intro u H2 s2 ru
      cases d with
      | int i =>
        cases d2 with
        | int j =>
          obtain rfl : v = .int i := rv
          obtain rfl : u = .int j := ru
          simp only at q
          split at q
          · rename_i hn
            exact ⟨i, j, rfl, ⟨(show _ ∧ _ from hn.1).1, (show _ ∧ _ from hn.1).2, (show _ ∧ _ from hn.2).1, (show _ ∧ _ from hn.2).2⟩, q _ H2 (s1.trans s2) (walkS_rng (by unfold range2D; rfl))⟩
          · exact q.elim
        | _ => exact q.elim
      | _ => exact q.elim
/-- all slots but those of is stand -/
def OffS (is : List Nat) (σ σ' : L2.St) : Prop := σ'.length = σ.length ∧ ∀ j, j ∉ is → σ'[j]? = σ[j]?
def GPost (Y : Cy) (is : List Nat) (O : Addr → Prop) (ρ0 : DEnv) (σ : L2.St) (H : Hp) (Q : L2.St → Hp → Prop) : Tw.R DEnv → Prop
  | .ok ρ => ∀ O' σ', Stp O H O' H → SR Y O' ρ σ' H → OffS is σ σ' → ((∀ i ∈ is, ¬ isOwn ρ0 i) → ∀ a, O a → O' a) → Q σ' H
  | _ => False
def tDG (Y : Cy) (is : List Nat) (g : DG) : TG := fun v σ H Q => ∃ O ρ d, SR Y O ρ σ H ∧ Rep Y.G (Zo Y.Ze O) H d v ∧ GPost Y is O ρ σ H Q (g d ρ)
def PDG (X : Cx) (Y : Cy) (is : List Nat) (tg : Expr) (g : DG) : Prop := Lk X Y → PG X tg (tDG Y is g)
theorem OffS.set {i : Nat} {σ : L2.St} {v : V} : OffS [i] σ (σ.set i (some v)) := ⟨List.length_set, fun j hj => List.getElem?_set_ne fun e => hj (by rw [e]; exact List.mem_cons_self)⟩
theorem OffS.mono {is js : List Nat} {σ σ' : L2.St} (h : OffS is σ σ') (k : ∀ i ∈ is, i ∈ js) : OffS js σ σ' := ⟨h.1, fun j hj => h.2 j fun z => hj (k j z)⟩
theorem OffS.trans {is : List Nat} {σ σ' σ2 : L2.St} (h : OffS is σ σ') (k : OffS is σ' σ2) : OffS is σ σ2 := ⟨k.1.trans h.1, fun j hj => (k.2 j hj).trans (h.2 j hj)⟩
theorem impPG {X : Cx} {tg : Expr} {t t' : TG} (h : PG X tg t) (i : ∀ v σ H Q, t' v σ H Q → t v σ H Q) : PG X tg t' := ⟨fun pins s σ H v u Q I r q => h.run pins s σ H v u Q I r (i v σ H Q q)⟩
theorem dg_name {i : Nat} {x : Str} (hi : X.N[i]? = some x) (hn : i < Y.n) (hx : Loc X.env.scope x) (hf : X.fn x = true ∨ X.env.scope.names.lookup x = some .local := by first | exact .inl rfl | exact .inr rfl | assumption) : PDG X Y [i] (.Name x pos) (gVar i) := fun k => impPG (pg_name k.nd hi hx hf) fun v σ H Q ⟨O, ρ, d, s, r, q⟩ => by
  unfold gVar at q
  cases e : setV i d ρ with
  | no => rw [e] at q; exact q.elim
  | ex x => rw [e] at q; exact q.elim
  | ok ρ' =>
    rw [e] at q
    obtain ⟨O', st, s', _, ho⟩ := s.setv e hn r
    exact q O' _ st s' OffS.set fun h => ho (h i List.mem_cons_self)
theorem drop_cons {α : Type} {l : List α} {i : Nat} (h : i < l.length) : ∃ d, l[i]? = some d ∧ l.drop i = d :: l.drop (i + 1) := by
  refine ⟨l[i], List.getElem?_eq_getElem h, ?_⟩
  exact List.drop_eq_getElem_cons h
theorem ds_for {iter : Expr} {body : List Stmt} {fi : DI} {g : DG} {F : DS} {cl is : List Nat} (hi : PDI X Y tg iter fi) (hg : PDG X Y is tg g) (hb : PDSs X Y body F)
    (hs : ∀ x, foldedSetIterable iter X.env x = pure x := by intro _; rfl) : PDS X Y (.For tg iter body [] pos) (sFor fi g cl F) := fun k => impPS (ps_for k.po k.calm (hi k) (hg k) (hb k) hs) fun N σ H ⟨O, ρ, s, q⟩ => by
  refine ⟨O, ρ, s, ?_⟩
  unfold sFor at q
  cases ea : fi ρ with
  | no => rw [ea] at q; exact q
  | ex e => rw [ea] at q; exact fun c od H1 s1 xr => q O σ H1 c od (Stp.same s1) (s.same s1) xr
  | ok l =>
    rw [ea] at q
    simp only [R.st_ok] at q
    intro J H1 s1 w
    obtain ⟨O0, st0, s0⟩ := clrD_SR cl (s.same s1)
    refine ⟨fun i m σ' H' => m = l.length - i ∧ i ≤ l.length ∧ ∃ O' ρ', Stp O H1 O' H' ∧ SR Y O' ρ' σ' H' ∧ SPost Y O' H' N (forL g cl F (l.drop i) ρ'), ⟨_, rfl, Nat.zero_le _, O0, _, st0, s0, SPost.fwd ((Stp.same s1).trans st0) q⟩, ?_⟩
    rintro i m σ' H' ⟨rfl, hi, O', ρ', st', s', q'⟩
    have wz : ∀ a, Zo Y.Ze O' a → Zo Y.Ze O a ∨ H1 a = none := fun a z => z.elim (fun z => .inl (.inl z)) fun z => (st'.2 a z).elim (fun z => .inl (.inr z)) .inr
    have ww := w i H' (Zo Y.Ze O') (fun a o n e => st'.1 a o (fun z => n (.inr z)) e) wz
    by_cases hlt : i < l.length
    · obtain ⟨d, hd, e⟩ := drop_cons hlt
      obtain ⟨go, yl⟩ := ww.1 d hd
      rw [e] at q'
      refine .inr ⟨go, fun σ2 H2 => i + 1 ≤ l.length ∧ ∃ O2 ρ2, Stp O H1 O2 H2 ∧ SR Y O2 ρ2 σ2 H2 ∧ SPost Y O2 H2 N (forL g cl F (l.drop (i + 1)) ρ2), fun σ2 H2 h => ⟨l.length - (i + 1), by omega, rfl, h.1, h.2⟩, fun x H3 y => ?_⟩
      obtain ⟨s3, r3⟩ := yl x H3 y
      refine ⟨O', ρ', d, s'.same s3, r3, ?_⟩
      simp only [forL] at q'
      cases eg : g d ρ' with
      | no => rw [eg] at q'; exact q'.elim
      | ex e => rw [eg] at q'; exact q'.elim
      | ok ρ3 =>
        rw [eg] at q'
        simp only [R.bind_ok] at q'
        intro O4 σ4 st4 s4 _ _
        refine ⟨O4, ρ3, s4, ?_⟩
        have stA := st'.trans ((Stp.same s3).trans st4)
        cases eF : F ρ3 with
        | no => rw [eF] at q'; exact q'.elim
        | ex e => rw [eF] at q'; exact q'.elim
        | ok o =>
          rw [eF] at q'
          cases o with
          | nx ρ5 =>
            intro O5 σ5 H5 st5 s5
            obtain ⟨O6, st6, s6⟩ := clrD_SR cl s5
            exact ⟨hlt, O6, _, stA.trans (st5.trans st6), s6, SPost.fwd ((Stp.same s3).trans (st4.trans (st5.trans st6))) q'⟩
          | ct ρ5 =>
            intro O5 σ5 H5 st5 s5
            obtain ⟨O6, st6, s6⟩ := clrD_SR cl s5
            exact ⟨hlt, O6, _, stA.trans (st5.trans st6), s6, SPost.fwd ((Stp.same s3).trans (st4.trans (st5.trans st6))) q'⟩
          | bk ρ5 => exact fun O5 σ5 H5 st5 s5 => q' O5 σ5 H5 ((Stp.same s3).trans (st4.trans st5)) s5
          | rt d5 ρ5 => exact fun O5 σ5 H5 v st5 s5 => q' O5 σ5 H5 v ((Stp.same s3).trans (st4.trans st5)) s5
          | xx e5 ρ5 => exact fun O5 σ5 H5 c od st5 s5 => q' O5 σ5 H5 c od ((Stp.same s3).trans (st4.trans st5)) s5
    · have e : i = l.length := by omega
      subst e
      rw [List.drop_length] at q'
      exact .inl ⟨ww.2 (Nat.le_refl _), q' O' σ' H' Stp.refl s'⟩
theorem ds_while (n : Nat) {c : Expr} {body : List Stmt} {gc : DT} {F : DS} {cl : List Nat} (hc : PDT X Y c gc) (hb : PDSs X Y body F) : PDS X Y (.While c body [] pos) (sWhile n gc cl F) := fun k => impPS (ps_while k.po (hc k) (hb k)) fun N σ H ⟨O, ρ, s, q⟩ => by
  unfold sWhile at q
  obtain ⟨O0, st0, s0⟩ := clrD_SR cl s
  refine ⟨fun m σ' H' => ∃ O' ρ', Stp O H O' H' ∧ SR Y O' ρ' σ' H' ∧ SPost Y O' H' N (whileL gc cl F m ρ'), ⟨n, O0, _, st0, s0, SPost.fwd st0 q⟩, ?_⟩
  rintro m σ' H' ⟨O', ρ', st', s', q'⟩
  cases m with
  | zero => exact q'.elim
  | succ m =>
    refine ⟨O', ρ', s', ?_⟩
    simp only [whileL] at q'
    cases ea : gc ρ' with
    | no => rw [ea] at q'; exact q'
    | ex e => rw [ea] at q'; exact fun c od H1 s1 xr => q' O' σ' H1 c od (Stp.same s1) (s'.same s1) xr
    | ok b =>
      rw [ea] at q'
      simp only [R.st_ok] at q'
      intro H1 s1
      cases b with
      | false =>
        rw [if_neg Bool.false_ne_true]
        exact q' O' σ' H1 (Stp.same s1) (s'.same s1)
      | true =>
        rw [if_pos rfl]
        rw [if_pos rfl] at q'
        refine ⟨fun σ2 H2 => ∃ O2 ρ2, Stp O H O2 H2 ∧ SR Y O2 ρ2 σ2 H2 ∧ SPost Y O2 H2 N (whileL gc cl F m ρ2), fun σ2 H2 h => ⟨m, Nat.lt_succ_self m, h⟩, O', ρ', s'.same s1, ?_⟩
        have stA := st'.trans (Stp.same s1)
        cases eF : F ρ' with
        | no => rw [eF] at q'; exact q'.elim
        | ex e => rw [eF] at q'; exact q'.elim
        | ok o =>
          rw [eF] at q'
          cases o with
          | nx ρ5 =>
            intro O5 σ5 H5 st5 s5
            obtain ⟨O6, st6, s6⟩ := clrD_SR cl s5
            exact ⟨O6, _, stA.trans (st5.trans st6), s6, SPost.fwd ((Stp.same s1).trans (st5.trans st6)) q'⟩
          | ct ρ5 =>
            intro O5 σ5 H5 st5 s5
            obtain ⟨O6, st6, s6⟩ := clrD_SR cl s5
            exact ⟨O6, _, stA.trans (st5.trans st6), s6, SPost.fwd ((Stp.same s1).trans (st5.trans st6)) q'⟩
          | bk ρ5 => exact fun O5 σ5 H5 st5 s5 => q' O5 σ5 H5 ((Stp.same s1).trans st5) s5
          | rt d5 ρ5 => exact fun O5 σ5 H5 v st5 s5 => q' O5 σ5 H5 v ((Stp.same s1).trans st5) s5
          | xx e5 ρ5 => exact fun O5 σ5 H5 c od st5 s5 => q' O5 σ5 H5 c od ((Stp.same s1).trans st5) s5
end
end Tw

set_option maxHeartbeats 2000000
namespace Tw
open PySem PySem.Spec L2
open PyProof.Rows hiding St
section
variable {Y : Cy} {O : Addr → Prop} {ρ : DEnv} {σ : L2.St} {H H' : Hp}
/-- the reading in a comprehension's block: no exception, more that may not be leaned on -/
def Cy.blk (Y : Cy) (Ze : Addr → Prop) : Cy := { Y with Ze := Ze, E := fun _ _ _ _ => False }
theorem SR.blk (s : SR Y O ρ σ H) (sm : Same H H') {p : Addr} (h0 : H p = none) (h1 : H' p ≠ none) : SR (Y.blk fun a => Y.Ze a ∨ a = p) O ρ σ H' := by
  obtain ⟨α, s⟩ := s
  have zz : ∀ a, Zo (fun a => Y.Ze a ∨ a = p) O a → Zo Y.Ze O a ∨ H a = none := fun a z => by
    rcases z with (z | rfl) | z
    · exact .inl (.inl z)
    · exact .inr h0
    · exact .inl (.inr z)
  refine ⟨α, s.len, fun i d e => ?_, fun i d e => ?_, fun i d e => ?_, fun i d e => ?_, s.inj, s.oeq, fun a z => ?_, fun a z q => s.ot a z (sm.free q)⟩
  · obtain ⟨v, e1, r⟩ := s.val i d e
    exact ⟨v, e1, r.mono (Same.sub sm) zz⟩
  · obtain ⟨e1, n, r⟩ := s.own i d e
    refine ⟨e1, fun z => ?_, r.mono sm zz⟩
    rcases z with z | z
    · exact n z
    · exact s.ot (α i) ((s.oeq _).mpr ⟨i, ⟨d, .inl e⟩, rfl⟩) (by rw [z]; exact h0)
  · obtain ⟨e1, n, c, ks, l, dx, vs, e2, e3, e4, r⟩ := s.slf i d e
    exact ⟨e1, n, c, ks, l, dx, vs, e2, sm _ _ e3, e4, RepGL.mono sm zz (fun j d' h => ⟨rfl, d', h⟩) r⟩
  · obtain ⟨r, k⟩ := s.gho i d e
    exact ⟨r.mono sm zz, k⟩
  · rcases z with z | rfl
    · exact fun q => s.zt a z (sm.free q)
    · exact h1
theorem okW_at {vs : List Nat} {v : Nat} (h : okW vs ρ = true) (hv : v ∈ vs) : ρ[v]? = some none ∨ ∃ d, ρ[v]? = some (some (.val d)) := by
  have := List.all_eq_true.mp h v hv
  split at this
  · rename_i e; exact .inl e
  · rename_i d e; exact .inr ⟨d, e⟩
  · cases this
theorem wipD_get {vs : List Nat} {j : Nat} : (wipD vs ρ)[j]? = if j ∈ vs then (if j < ρ.length then some none else none) else ρ[j]? := by
  induction vs with
  | nil => simp [wipD]
  | cons v vs ih =>
    have e : wipD (v :: vs) ρ = (wipD vs ρ).set v none := rfl
    have hl : (wipD vs ρ).length = ρ.length := by
      clear ih e
      induction vs with
      | nil => rfl
      | cons w vs ih => show ((wipD vs ρ).set w none).length = _; rw [List.length_set, ih]
    rw [e]
    by_cases hj : v = j
    · subst hj
      rw [if_pos List.mem_cons_self]
      by_cases hv : v < ρ.length
      · rw [if_pos hv, List.getElem?_set_self (by rw [hl]; exact hv)]
      · rw [if_neg hv, List.getElem?_eq_none]
        rw [List.length_set, hl]
        omega
    · rw [List.getElem?_set_ne hj, ih]
      by_cases h : j ∈ vs
      · rw [if_pos h, if_pos (List.mem_cons_of_mem _ h)]
      · rw [if_neg h, if_neg fun z => (List.mem_cons.mp z).elim (fun z => hj z.symm) h]
theorem wipD_len {vs : List Nat} : (wipD vs ρ).length = ρ.length := by
  induction vs with
  | nil => rfl
  | cons w vs ih => show ((wipD vs ρ).set w none).length = _; rw [List.length_set, ih]
/-- the block's names forgotten -/
theorem SR.wipe {vs : List Nat} (s : SR Y O ρ σ H) (h : okW vs ρ = true) : SR Y O (wipD vs ρ) (wipe σ vs) H := by
  obtain ⟨α, s⟩ := s
  have back : ∀ {j : Nat} {x : Slot}, (wipD vs ρ)[j]? = some (some x) → j ∉ vs ∧ ρ[j]? = some (some x) := fun {j x} e => by
    rw [wipD_get] at e
    split at e
    · split at e <;> cases e
    · rename_i n; exact ⟨n, e⟩
  have fwd : ∀ {j : Nat}, isOwn ρ j → j ∉ vs := fun {j} h' n => by
    obtain ⟨d, h'⟩ := h'
    rcases okW_at h n with e | ⟨d', e⟩ <;> rcases h' with k | k | k <;> rw [e] at k <;> cases k
  have own : ∀ j, isOwn (wipD vs ρ) j ↔ isOwn ρ j := fun j => by
    refine ⟨fun ⟨d, k⟩ => ?_, fun k => ?_⟩
    · rcases k with k | k | k
      · exact ⟨d, .inl (back k).2⟩
      · exact ⟨d, .inr (.inl (back k).2)⟩
      · exact ⟨d, .inr (.inr (back k).2)⟩
    · have n := fwd k
      obtain ⟨d, k⟩ := k
      refine ⟨d, ?_⟩
      rw [wipD_get, if_neg n]
      exact k
  refine ⟨α, ⟨(wipe_length σ vs).trans s.len.1, by rw [wipD_len]; exact s.len.2⟩, fun i d e => ?_, fun i d e => ?_, fun i d e => ?_, fun i d e => ?_, fun i j hi hj e => s.inj i j ((own i).mp hi) ((own j).mp hj) e, fun a => ?_, s.zt, s.ot⟩
  · obtain ⟨n, e⟩ := back e
    obtain ⟨v, e1, r⟩ := s.val i d e
    exact ⟨v, by rw [wipe_out n]; exact e1, r⟩
  · obtain ⟨n, e⟩ := back e
    obtain ⟨e1, r⟩ := s.own i d e
    exact ⟨by rw [wipe_out n]; exact e1, r⟩
  · obtain ⟨n, e⟩ := back e
    obtain ⟨e1, n', c, ks, l, dx, us, e2, e3, e4, r⟩ := s.slf i d e
    refine ⟨by rw [wipe_out n]; exact e1, n', c, ks, l, dx, us, e2, e3, e4, RepGL.weak (fun _ z => z) (fun j d' hj => ⟨d', ?_⟩) r⟩
    rw [wipD_get, if_neg (fwd ⟨d', .inr (.inr hj)⟩)]
    exact hj
  · obtain ⟨n, e⟩ := back e
    exact s.gho i d e
  · rw [s.oeq]
    exact ⟨fun ⟨j, k, e⟩ => ⟨j, (own j).mpr k, e⟩, fun ⟨j, k, e⟩ => ⟨j, (own j).mp k, e⟩⟩
theorem wipe_get {vs : List Nat} {j : Nat} : (L2.wipe σ vs)[j]? = if j ∈ vs then (if j < σ.length then some none else none) else σ[j]? := by
  induction vs with
  | nil => simp [L2.wipe]
  | cons v vs ih =>
    have e : L2.wipe σ (v :: vs) = (L2.wipe σ vs).set v none := rfl
    rw [e]
    by_cases hj : v = j
    · subst hj
      rw [if_pos List.mem_cons_self]
      by_cases hv : v < σ.length
      · rw [if_pos hv, List.getElem?_set_self (by rw [wipe_length]; exact hv)]
      · rw [if_neg hv, List.getElem?_eq_none]
        rw [List.length_set, wipe_length]
        omega
    · rw [List.getElem?_set_ne hj, ih]
      by_cases h : j ∈ vs
      · rw [if_pos h, if_pos (List.mem_cons_of_mem _ h)]
      · rw [if_neg h, if_neg fun z => (List.mem_cons.mp z).elim (fun z => hj z.symm) h]
theorem OffS.wipe {vs is : List Nat} {σ2 : L2.St} (h : OffS is (L2.wipe σ vs) σ2) (k : ∀ i ∈ is, i ∈ vs) : L2.wipe σ2 vs = L2.wipe σ vs := by
  refine List.ext_getElem? fun j => ?_
  have hl : σ2.length = σ.length := h.1.trans (wipe_length σ vs)
  rw [wipe_get, wipe_get, hl]
  by_cases hj : j ∈ vs
  · rw [if_pos hj, if_pos hj]
  · rw [if_neg hj, if_neg hj, h.2 j fun z => hj (k j z), wipe_out hj]
theorem wip_noown {vs : List Nat} {i : Nat} (hw : okW vs ρ = true) (hi : i ∈ vs) : ¬ isOwn (wipD vs ρ) i := fun ⟨d, k⟩ => by
  simp only [wipD_get, if_pos hi] at k
  rcases k with k | k | k <;> split at k <;> cases k
theorem compL_ex {g : DG} {c : DT} {e : DE} {ρ : DEnv} {x : Ex} : ∀ {l : List D}, compL g c e ρ l = .ex x → False
  | [], h => by cases h
  | d :: l, h => by
    simp only [compL] at h
    split at h
    · split at h
      · split at h
        · split at h <;> cases h
        · cases h
      · exact compL_ex h
      · cases h
    · cases h
/-- readings with more that may not be leaned on -/
def tX (Y : Cy) (f : DE) : TE := fun σ H Q => ∃ Ze, tD (Y.blk Ze) f σ H Q
def tXT (Y : Cy) (f : DT) : TT := fun σ H Q => ∃ Ze, tDT (Y.blk Ze) f σ H Q
def tXG (Y : Cy) (is : List Nat) (g : DG) : TG := fun v σ H Q => ∃ Ze, tDG (Y.blk Ze) is g v σ H Q
def tXI (Y : Cy) (f : DI) : TI := fun σ H Q => ∃ Ze, tDIw (Y.blk Ze) f σ H Q
end
section
variable {X : Cx} {Y : Cy} {O : Addr → Prop} {ρ : DEnv} {σ : L2.St} {H : Hp}
theorem Lk.blk (k : Lk X Y) (s : Shared) (H : Hp) (scope : Scope) (cenv : Env) (fp : List Addr) (Ze : Addr → Prop) : Lk (X.blk s H scope cenv fp) (Y.blk Ze) :=
  ⟨k.K, k.ln, takes0, k.rm, k.nd, PassesOwn.never, k.calm⟩
/-- the loop of a comprehension -/
theorem comp_core {vs is : List Nat} {g : DG} {c : DT} {e : DE} {J : It} {l ys : List D} {H0 : Hp} {Qd : Addr → Hp → Prop} (s : SR Y O ρ σ H0) (hw : okW vs ρ = true) (hl : l.length ≤ lineD) (hk : ∀ i ∈ is, i ∈ vs) (w : WalkW Y.G (Zo Y.Ze O) H0 J l) (hc : compL g c e (wipD vs ρ) l = .ok ys)
    (hq : ∀ D H' us, Same H0 H' → H0 D = none → H' D = some (.lst us) → RepL Y.G (fun a => Zo Y.Ze O a ∨ a = D) H' ys us → Qd D H') :
    ∀ D, H0 D = none → ∃ W : Nat → Nat → Hp → Prop, (∃ m, W 0 m (upd H0 D (.lst []))) ∧ ∀ i m H, W i m H →
      (J.stop i H ∧ Qd D H) ∨ (J.go i H ∧ ∃ Nx : Hp → Prop, (∀ H', Nx H' → ∃ m', m' < m ∧ W (i + 1) m' H') ∧ ∀ x H', J.yld i H x H' → tXG Y is g x (L2.wipe σ vs) H' fun σ2 H2 => L2.wipe σ2 vs = L2.wipe σ vs ∧ tXT Y c σ2 H2 fun b H3 =>
        if b = true then tX Y e σ2 H3 fun y H4 => ∃ acc, H4 D = some (.lst acc) ∧ acc.length < sizeLine ∧ Nx (upd H4 D (.lst (acc ++ [y]))) else Nx H3) := by
  intro D hD
  let P : Nat → Hp → Prop := fun i H' => Same H0 H' ∧ ∃ acc us, H' D = some (.lst us) ∧ RepL Y.G (fun a => Zo Y.Ze O a ∨ a = D) H' acc us ∧ acc.length ≤ i ∧ ∃ rest, compL g c e (wipD vs ρ) (l.drop i) = .ok rest ∧ ys = acc ++ rest
  refine ⟨fun i m H' => m = l.length - i ∧ i ≤ l.length ∧ P i H', ⟨_, rfl, Nat.zero_le _, same_new hD, [], [], upd_same, rfl, Nat.zero_le _, ys, by rw [List.drop_zero]; exact hc, rfl⟩, ?_⟩
  rintro i m H' ⟨rfl, hi, sm, acc, us, hu, ru, ha, rest, hr, hy⟩
  have zz : ∀ a, (fun a => Zo Y.Ze O a ∨ a = D) a → Zo Y.Ze O a ∨ H0 a = none := fun a z => z.elim .inl fun e => .inr (by rw [e]; exact hD)
  have ww := w i H' (fun a => Zo Y.Ze O a ∨ a = D) sm zz
  have hne : H' D ≠ none := by rw [hu]; exact fun z => by cases z
  by_cases hlt : i < l.length
  · obtain ⟨d, hd, e1⟩ := drop_cons hlt
    obtain ⟨go, yl⟩ := ww.1 d hd
    rw [e1] at hr
    refine .inr ⟨go, fun H2 => i + 1 ≤ l.length ∧ P (i + 1) H2, fun H2 h => ⟨l.length - (i + 1), by omega, rfl, h.1, h.2⟩, fun x H3 y => ?_⟩
    obtain ⟨s3, r3⟩ := yl x H3 y
    have sb : SR (Y.blk fun a => Y.Ze a ∨ a = D) O (wipD vs ρ) (L2.wipe σ vs) H3 := (s.wipe hw).blk (sm.trans s3) hD fun q => hne (s3.free q)
    have zo : ∀ a, Zo (fun a => Y.Ze a ∨ a = D) O a ↔ Zo Y.Ze O a ∨ a = D := fun a => by
      constructor
      · rintro ((z | z) | z)
        · exact .inl (.inl z)
        · exact .inr z
        · exact .inl (.inr z)
      · rintro ((z | z) | z)
        · exact .inl (.inl z)
        · exact .inr z
        · exact .inl (.inr z)
    refine ⟨fun a => Y.Ze a ∨ a = D, O, wipD vs ρ, d, sb, r3.weak fun a z => (zo a).mp z, ?_⟩
    simp only [compL] at hr
    cases eg : g d (wipD vs ρ) with
    | no => rw [eg] at hr; cases hr
    | ex e => rw [eg] at hr; cases hr
    | ok ρ1 =>
      rw [eg] at hr
      simp only at hr
      intro O1 σ1 st1 s1 off ow
      refine ⟨off.wipe hk, fun a => Y.Ze a ∨ a = D, O1, ρ1, s1, ?_⟩
      have sub1 : ∀ a, O1 a → O a ∨ H3 a = none := st1.2
      cases ec : c ρ1 with
      | no => rw [ec] at hr; cases hr
      | ex e => rw [ec] at hr; cases hr
      | ok b =>
        rw [ec] at hr
        intro H4 s4
        cases b with
        | false =>
          rw [if_neg Bool.false_ne_true]
          have s04 := sm.trans (s3.trans s4)
          exact ⟨hlt, s04, acc, us, (s3.trans s4) _ _ hu, ru.same (s3.trans s4), Nat.le_succ_of_le ha, rest, hr, hy⟩
        | true =>
          rw [if_pos rfl]
          simp only at hr
          refine ⟨fun a => Y.Ze a ∨ a = D, O1, ρ1, s1.same s4, ?_⟩
          cases ee : e ρ1 with
          | no => rw [ee] at hr; cases hr
          | ex x => rw [ee] at hr; cases hr
          | ok d2 =>
            rw [ee] at hr
            simp only at hr
            cases er : compL g c e (wipD vs ρ) (l.drop (i + 1)) with
            | no => rw [er] at hr; cases hr
            | ex x => rw [er] at hr; cases hr
            | ok rest2 =>
              rw [er] at hr
              cases hr
              intro v H5 s5 rv
              have s35 := s3.trans (s4.trans s5)
              have hu5 : H5 D = some (.lst us) := s35 _ _ hu
              have ll := ru.length
              refine ⟨us, hu5, ?_, hlt, fun b o q => ?_, acc ++ [d2], us ++ [v], upd_same, ?_, by rw [List.length_append, List.length_singleton]; omega, rest2, er, by rw [hy, List.append_assoc]; rfl⟩
              · rw [lineD_eq]; omega
              · rw [upd_ne (ne_of_none q hD)]
                exact s35 b o (sm b o q)
              · have sb : Sub (fun a => Zo Y.Ze O a ∨ a = D) H5 (upd H5 D (.lst (us ++ [v]))) := fun b o n q => by
                  rw [upd_ne fun e => n (.inr e)]
                  exact q
                refine RepL.mono sb (fun a z => .inl z) ((ru.same s35).append (RepL.one ?_))
                refine Rep.mono (Same.sub (Same.refl H5)) (fun a z => ?_) rv
                rcases z with (z | z) | z
                · exact .inl (.inl (.inl z))
                · exact .inl (.inr (ow (fun i hi' => wip_noown hw (hk i hi')) a z))
                · exact .inl (.inl (.inr z))
  · have e1 : i = l.length := by omega
    subst e1
    rw [List.drop_length] at hr
    cases hr
    rw [List.append_nil] at hy
    subst hy
    exact .inl ⟨ww.2 (Nat.le_refl _), hq D H' us sm hD hu ru⟩
def PDTs (X : Cx) (Y : Cy) (ifs : List Expr) (f : DT) : Prop := Lk X Y → PTs X ifs (tDT Y f)
theorem impPTs {X : Cx} {e : List Expr} {t t' : TT} (h : PTs X e t) (i : ∀ σ H Q, t' σ H Q → t σ H Q) : PTs X e t' := ⟨fun pins s σ H Q I q => h.run pins s σ H Q I (i σ H Q q)⟩
theorem dts_nil : PDTs X Y [] tYesD := fun k => impPTs pts_nil fun σ H Q ⟨O, ρ, s, q⟩ => q H (Same.refl H)
theorem dts_one {c : Expr} {f : DT} (h : PDT X Y c f) : PDTs X Y [c] f := fun k => pts_one (h k)
theorem PE.xall {e : Expr} {f : DE} (h : ∀ Ze, PE X e (tD (Y.blk Ze) f)) : PE X e (tX Y f) := ⟨fun pins s σ H Q I ⟨Ze, q⟩ => (h Ze).run pins s σ H Q I q⟩
theorem PTs.xall {e : List Expr} {f : DT} (h : ∀ Ze, PTs X e (tDT (Y.blk Ze) f)) : PTs X e (tXT Y f) := ⟨fun pins s σ H Q I ⟨Ze, q⟩ => (h Ze).run pins s σ H Q I q⟩
theorem PG.xall {e : Expr} {is : List Nat} {f : DG} (h : ∀ Ze, PG X e (tDG (Y.blk Ze) is f)) : PG X e (tXG Y is f) := ⟨fun pins s σ H v u Q I r ⟨Ze, q⟩ => (h Ze).run pins s σ H v u Q I r q⟩
theorem PI.xall {tg e : Expr} {f : DI} (h : ∀ Ze, PI X tg e (tDIw (Y.blk Ze) f)) : PI X tg e (tXI Y f) := ⟨fun pins s σ H Q I ⟨Ze, q⟩ => (h Ze).run pins s σ H Q I q⟩
variable {elt tg iter : Expr} {ifs : List Expr} {scope : Scope} {own : List (Str × Nat)} {pos : Pos} {fi : DI} {g : DG} {c : DT} {e : DE} {is : List Nat}
/-- a comprehension's reading, from what is wanted of its list -/
theorem comp_imp {Qv : VK} (hk : ∀ i ∈ is, i ∈ own.map (·.2)) (σ : L2.St) (H : Hp) (O : Addr → Prop) (ρ : DEnv) (s : SR Y O ρ σ H) (he : ∀ e', fi ρ = .ex e' → ∀ c od H', Same H H' → ExRep Y.G (Zo Y.Ze O) H' e' c od → Y.E c od σ H')
    (h : ∃ l ys, (fi ρ = .ok l ∧ l.length ≤ lineD ∧ okW (own.map (·.2)) ρ = true ∧ compL g c e (wipD (own.map (·.2)) ρ) l = .ok ys ∧ ∀ D H' us, Same H H' → H D = none → H' D = some (.lst us) → RepL Y.G (fun a => Zo Y.Ze O a ∨ a = D) H' ys us → Qv (.ref D) H') ∨ ∃ e', fi ρ = .ex e') :
    tLc (tDIw Y fi) (tXG Y is g) (tXT Y c) (tX Y e) (own.map (·.2)) σ H Qv := by
  refine ⟨O, ρ, s, ?_⟩
  obtain ⟨l, ys, h | ⟨e', h⟩⟩ := h
  · obtain ⟨ea, hl, hw, hc, hq⟩ := h
    rw [ea]
    intro J H1 s1 w D hD
    exact comp_core (Qd := fun D H' => Qv (.ref D) H') (s.same s1) hw hl hk w hc (fun D H' us s2 h0 h1 r => hq D H' us (s1.trans s2) (s1.free h0) h1 r) D hD
  · rw [h]
    exact he e' h
theorem pd_comp (hi : PDIw X Y tg iter fi) (ok : BlkOk X.N X.env.scope scope own) (hk : ∀ i ∈ is, i ∈ own.map (·.2))
    (hg : ∀ (Ze : Addr → Prop) (s : Shared) (H : Hp) (C : Addr) (cl : List (Str × Addr)) (fp : List Addr), PDG (X.blk s H scope (compEnvC scope cl C X.env) fp) (Y.blk Ze) is tg g)
    (ht : ∀ (Ze : Addr → Prop) (s : Shared) (H : Hp) (C : Addr) (cl : List (Str × Addr)) (fp : List Addr), PDTs (X.blk s H scope (compEnvC scope cl C X.env) fp) (Y.blk Ze) ifs c)
    (he : ∀ (Ze : Addr → Prop) (s : Shared) (H : Hp) (C : Addr) (cl : List (Str × Addr)) (fp : List Addr), PD (X.blk s H scope (compEnvC scope cl C X.env) fp) (Y.blk Ze) elt e)
    (hs : ∀ x, foldedSetIterable iter X.env x = pure x := by intro _; rfl) : PD X Y (.ListComp elt [⟨tg, iter, ifs, 0⟩] scope pos) (eComp fi (own.map (·.2)) g c e) := fun k => by
  refine impPE (pe_lc k.calm k.nd (hi k) ok (fun s H C cl fp => PG.xall fun Ze => hg Ze s H C cl fp (k.blk s H scope _ fp Ze)) (fun s H C cl fp => PTs.xall fun Ze => ht Ze s H C cl fp (k.blk s H scope _ fp Ze)) (fun s H C cl fp => PE.xall fun Ze => he Ze s H C cl fp (k.blk s H scope _ fp Ze)) hs) fun σ H Q ⟨O, ρ, s, q⟩ => ?_
  unfold eComp at q
  refine comp_imp hk σ H O ρ s (fun e' ee => by rw [ee] at q; exact q) ?_
  cases ea : fi ρ with
  | no => rw [ea] at q; exact q.elim
  | ex e' => exact ⟨[], [], .inr ⟨e', rfl⟩⟩
  | ok l =>
    rw [ea] at q
    simp only [R.bind_ok] at q
    split at q
    · rename_i hl
      cases ec : compL g c e (wipD (own.map (·.2)) ρ) l with
      | no => rw [ec] at q; exact q.elim
      | ex e' => 
        rw [ec] at q
        exact (compL_ex ec).elim
      | ok ys =>
        rw [ec] at q
        refine ⟨l, ys, .inl ⟨rfl, hl.1, hl.2, ec, fun D H' us s1 h0 h1 r => q _ H' s1 ⟨D, us, rfl, fun z => s.zt D z h0, h1, r.weak fun a z => .inl z⟩⟩⟩
    · exact q.elim
theorem ds_comp {i : Nat} {y : Str} {py spos : Pos} (hy : X.N[i]? = some y) (hn : i < Y.n) (hyl : X.env.scope.names.lookup y = some .local) (hsw : swapsWith (.ListComp elt [⟨tg, iter, ifs, 0⟩] scope pos) (some (.Name y py)) spos.line X.env = pure true)
    (hi : PDIw X Y tg iter fi) (ok : BlkOk X.N X.env.scope scope own) (hk : ∀ i ∈ is, i ∈ own.map (·.2))
    (hg : ∀ (Ze : Addr → Prop) (s : Shared) (H : Hp) (C : Addr) (cl : List (Str × Addr)) (fp : List Addr), PDG (X.blk s H scope (compEnvC scope cl C X.env) fp) (Y.blk Ze) is tg g)
    (ht : ∀ (Ze : Addr → Prop) (s : Shared) (H : Hp) (C : Addr) (cl : List (Str × Addr)) (fp : List Addr), PDTs (X.blk s H scope (compEnvC scope cl C X.env) fp) (Y.blk Ze) ifs c)
    (he : ∀ (Ze : Addr → Prop) (s : Shared) (H : Hp) (C : Addr) (cl : List (Str × Addr)) (fp : List Addr), PD (X.blk s H scope (compEnvC scope cl C X.env) fp) (Y.blk Ze) elt e)
    (hs : ∀ x, foldedSetIterable iter X.env x = pure x := by intro _; rfl) : PDS X Y (.Assign [.Name y py] (.ListComp elt [⟨tg, iter, ifs, 0⟩] scope pos) spos) (sSet i (eComp fi (own.map (·.2)) g c e)) := fun k => by
  refine impPS (ps_setLc k.calm k.nd hy hyl hsw (hi k) ok (fun s H C cl fp => PG.xall fun Ze => hg Ze s H C cl fp (k.blk s H scope _ fp Ze)) (fun s H C cl fp => PTs.xall fun Ze => ht Ze s H C cl fp (k.blk s H scope _ fp Ze)) (fun s H C cl fp => PE.xall fun Ze => he Ze s H C cl fp (k.blk s H scope _ fp Ze)) hs) fun N σ H ⟨O, ρ, s, q⟩ => ?_
  unfold sSet eComp at q
  refine comp_imp hk σ H O ρ s (fun e' ee => by rw [ee] at q; exact fun c od H' s' xr => q O σ H' c od (Stp.same s') (s.same s') xr) ?_
  cases ea : fi ρ with
  | no => rw [ea] at q; exact q.elim
  | ex e' => exact ⟨[], [], .inr ⟨e', rfl⟩⟩
  | ok l =>
    rw [ea] at q
    simp only [R.bind_ok] at q
    split at q
    · rename_i hl
      cases ec : compL g c e (wipD (own.map (·.2)) ρ) l with
      | no => rw [ec] at q; exact q.elim
      | ex e' => exact (compL_ex ec).elim
      | ok ys =>
        rw [ec] at q
        refine ⟨l, ys, .inl ⟨rfl, hl.1, hl.2, ec, fun D H' us s1 h0 h1 r => ?_⟩⟩
        simp only [R.bind_ok, R.st_ok] at q
        cases es : setV i (.lst ys) ρ with
        | no => rw [es] at q; exact q.elim
        | ex e => exact (setV_no es).elim
        | ok ρ' =>
          rw [es] at q
          obtain ⟨O', st, s', _⟩ := (s.same s1).setv es hn (v := .ref D) ⟨D, us, rfl, fun z => s.zt D z h0, h1, r.weak fun a z => .inl z⟩
          exact q O' _ H' ((Stp.same s1).trans st) s'
    · exact q.elim
end
end Tw

set_option maxHeartbeats 2000000
namespace Tw
open PySem PySem.Spec L2
open PyProof.Rows hiding St
def vRep (x : Str) (y : V) : List Str → List V → List V
  | k :: ks, v :: vs => (if k = x then y else v) :: vRep x y ks vs
  | _, _ => []
def vPut (x : Str) (y : V) (ks : List Str) (vs : List V) : List V := if x ∈ ks then vRep x y ks vs else vs ++ [y]
theorem any_sKeys {x : Str} : ∀ {ks : List Str} {vs : List V}, ks.length = vs.length → ((sKeys ks vs).any fun kv => decide (kv.1 = (Sum.inr x : Key))) = decide (x ∈ ks)
  | [], vs, e => by cases vs <;> simp_all [sKeys]
  | k :: ks, [], e => by simp at e
  | k :: ks, v :: vs, e => by
    have ih := any_sKeys (x := x) (ks := ks) (vs := vs) (by simpa using e)
    simp only [sKeys, List.any_cons, ih]
    by_cases q : k = x
    · subst q; simp
    · have q' : ¬ (Sum.inr k : Key) = Sum.inr x := fun z => q (Sum.inr.inj z)
      have q2 : ¬ x = k := fun z => q z.symm
      simp [q', q2, q]
theorem map_sKeys {x : Str} {y : V} : ∀ {ks : List Str} {vs : List V}, ks.length = vs.length → ((sKeys ks vs).map fun kv => if kv.1 = (Sum.inr x : Key) then (kv.1, y) else kv) = sKeys ks (vRep x y ks vs)
  | [], vs, e => by cases vs <;> simp_all [sKeys]
  | k :: ks, [], e => by simp at e
  | k :: ks, v :: vs, e => by
    have ih := map_sKeys (x := x) (y := y) (ks := ks) (vs := vs) (by simpa using e)
    simp only [sKeys, vRep, List.map_cons, ih]
    by_cases q : k = x
    · subst q; simp
    · have q' : ¬ (Sum.inr k : Key) = Sum.inr x := fun z => q (Sum.inr.inj z)
      simp [q', q]
theorem sKeys_snoc {x : Str} {y : V} : ∀ {ks : List Str} {vs : List V}, ks.length = vs.length → sKeys ks vs ++ [(Sum.inr x, y)] = sKeys (ks ++ [x]) (vs ++ [y])
  | [], vs, e => by cases vs <;> simp_all [sKeys]
  | k :: ks, [], e => by simp at e
  | k :: ks, v :: vs, e => by
    have ih := sKeys_snoc (x := x) (y := y) (ks := ks) (vs := vs) (by simpa using e)
    simp only [sKeys, List.cons_append, ih]
theorem putK_s {x : Str} {y : V} {ks : List Str} {vs : List V} (e : ks.length = vs.length) : putK (sKeys ks vs) (Sum.inr x : Key) y = sKeys (dPutK x ks) (vPut x y ks vs) := by
  unfold putK dPutK vPut
  rw [any_sKeys e]
  by_cases q : x ∈ ks
  · rw [if_pos q, if_pos q, if_pos (decide_eq_true q), map_sKeys e]
  · rw [if_neg q, if_neg q, if_neg (by rw [decide_eq_false q]; exact Bool.false_ne_true), sKeys_snoc e]
theorem vRep_len {x : Str} {y : V} : ∀ {ks : List Str} {vs : List V}, ks.length = vs.length → (vRep x y ks vs).length = ks.length
  | [], vs, e => by cases vs <;> simp_all [vRep]
  | k :: ks, [], e => by simp at e
  | k :: ks, v :: vs, e => by simp [vRep, vRep_len (x := x) (y := y) (ks := ks) (vs := vs) (by simpa using e)]
theorem vPut_len {x : Str} {y : V} {ks : List Str} {vs : List V} (e : ks.length = vs.length) : (dPutK x ks).length = (vPut x y ks vs).length := by
  unfold dPutK vPut
  by_cases q : x ∈ ks
  · rw [if_pos q, if_pos q, vRep_len e]
  · rw [if_neg q, if_neg q, List.length_append, List.length_append, e]; rfl
theorem rep_vRep {G : Gc} {Z : Addr → Prop} {H : Hp} {x : Str} {d : D} {y : V} (ry : Rep G Z H d y) : ∀ {ks : List Str} {l : List D} {vs : List V}, ks.length = vs.length → RepL G Z H l vs → RepL G Z H (repDv x d ks l) (vRep x y ks vs)
  | [], l, vs, e, r => by cases l <;> cases vs <;> simp_all [repDv, vRep, RepL]
  | k :: ks, l, [], e, r => by simp at e
  | k :: ks, [], v :: vs, e, r => by cases (show v :: vs = [] from r)
  | k :: ks, d' :: l, v :: vs, e, r => by
    obtain ⟨v', w, e', r1, r2⟩ := r
    cases e'
    simp only [repDv, vRep]
    refine ⟨_, _, rfl, ?_, rep_vRep ry (by simpa using e) r2⟩
    by_cases q : k = x
    · rw [if_pos q, if_pos q]; exact ry
    · rw [if_neg q, if_neg q]; exact r1
theorem rep_vPut {G : Gc} {Z : Addr → Prop} {H : Hp} {x : Str} {d : D} {y : V} (ry : Rep G Z H d y) {ks : List Str} {l : List D} {vs : List V} (e : ks.length = vs.length) (r : RepL G Z H l vs) : RepL G Z H (dPutV x d ks l) (vPut x y ks vs) := by
  unfold dPutV vPut
  by_cases q : x ∈ ks
  · rw [if_pos q, if_pos q]; exact rep_vRep ry e r
  · rw [if_neg q, if_neg q]; exact r.append (RepL.one ry)
section
variable {X : Cx} {Y : Cy} {O : Addr → Prop} {ρ : DEnv} {σ : L2.St} {H : Hp} {a b e o : Expr} {fa fb : DE} {pos p p2 apos cpos pos' : Pos} {x : Str} {i : Nat}
theorem Stp.own {O : Addr → Prop} {H : Hp} {p : Addr} {o : HO} (h : O p) : Stp O H O (upd H p o) := ⟨fun a u n e => by rw [upd_ne fun q => n (by rw [q]; exact h)]; exact e, fun a z => .inl z⟩
/-- the receiver x is the def's own container -/
theorem own_at {d : D} (s : SR Y O ρ σ H) (hi : ρ[i]? = some (some (.own d))) : ∃ p, σ[i]? = some (some (.ref p)) ∧ O p ∧ RepW Y.G (Zo Y.Ze O) H d (.ref p) := by
  obtain ⟨α, s⟩ := s
  obtain ⟨e, _, r⟩ := s.own i d hi
  exact ⟨_, e, (s.oeq _).mpr ⟨i, ⟨d, .inl hi⟩, rfl⟩, r⟩
/-- the write of the container at i -/
theorem SR.write {d d' : D} {p : Addr} {o : HO} (s : SR Y O ρ σ H) (hi : ρ[i]? = some (some (.own d))) (hp : σ[i]? = some (some (.ref p))) (r : RepW Y.G (Zo Y.Ze O) (upd H p o) d' (.ref p)) : SR Y O (ρ.set i (some (.own d'))) σ (upd H p o) := by
  obtain ⟨p', e, _, _, s'⟩ := s.mut (d' := d') (o := o) hi fun q eq _ _ _ => by
    rw [hp] at eq; cases eq; exact r
  rw [hp] at e
  cases e
  exact s'
theorem sub_upd {p : Addr} {o : HO} (h : O p) : Sub (Zo Y.Ze O) H (upd H p o) := fun a u n e => by
  rw [upd_ne fun q => n (.inr (by rw [q]; exact h))]
  exact e
/-- x.append(e) -/
theorem ds_append {i : Nat} (hN : X.N[i]? = some x) (ha : PD X Y a fa) (hv : Vis X.env.scope x := by first | exact Or.inl rfl | exact Or.inr (Or.inl rfl) | exact Or.inr (Or.inr rfl)) (hd : (x == ("__debug__" : Str)) = false := by decide) (hcd : (x == ("__classdict__" : Str)) = false := by decide)
    (hbase : attributeBase (.Name x p) "append" X.env (eval (.Name x p) X.env) = eval (.Name x p) X.env := by rfl)
    (hfew : ((backTo cpos (starEach (a :: []) X.env)).all (fun x => !x.1) && (backToKw cpos (keywordEach [] X.env)).all (fun x => x.1.isSome)
      && decide ((a :: []).length + ([] : List Keyword).length + (if ([] : List Keyword).isEmpty then 0 else 1) < 30)) = true := by rfl)
    (hline : (apos.endLine == cpos.line) = true := by rfl) (hs : starEach (a :: []) X.env = (false, eval a X.env) :: starEach [] X.env := by rfl) (hplain : (backTo cpos (starEach [] X.env)).any (·.1) = false := by rfl)
    (hsw : swapsWith (.Call (.Attribute (.Name x p) "append" apos) [a] [] cpos) none pos.line X.env = pure false := by rfl) :
    PDS X Y (.Expr (.Call (.Attribute (.Name x p) "append" apos) [a] [] cpos) pos) (sApp i fa) := fun k => by
  refine impPS (ps_expr (pe_bm PySem.F.plainAttrs_list PySem.F.slot_list_append PySem.F.type_list_append mt_append (pe_var hN hv hd hcd) (pa_cons (ha k) pa_nil hs) hbase hfew hline hs hplain) hsw) fun N σ H ⟨O, ρ, s, q⟩ => ?_
  unfold sApp at q
  split at q
  · rename_i l hi
    obtain ⟨pl, hp, Op, rl⟩ := own_at s hi
    obtain ⟨_, vs, e, hl, rv⟩ := rl
    cases e
    refine ⟨.ref pl, hp, .inl ⟨rfl, vs, SqL.of hl⟩, exp_then s q fun d ea q v H1 s1 r1 => ?_⟩
    split at q
    · rename_i hlen
      have hl1 := s1 _ _ hl
      refine ⟨pl, vs, v, rfl, rfl, hl1, by rw [lineD_eq, ← rv.length]; exact hlen, ?_⟩
      have s' := (s.same s1).write (d' := .lst (l ++ [d])) (o := .lst (vs ++ [v])) hi hp ⟨pl, _, rfl, upd_same, RepL.mono (sub_upd Op) (fun _ z => .inl z) ((rv.same s1).append (RepL.one r1))⟩
      exact q O σ _ ((Stp.same s1).trans (Stp.own Op)) s'
    · exact q.elim
  · exact q.elim
/-- x.clear() -/
theorem ds_clear {i : Nat} (hN : X.N[i]? = some x) (hv : Vis X.env.scope x := by first | exact Or.inl rfl | exact Or.inr (Or.inl rfl) | exact Or.inr (Or.inr rfl)) (hd : (x == ("__debug__" : Str)) = false := by decide) (hcd : (x == ("__classdict__" : Str)) = false := by decide)
    (hbase : attributeBase (.Name x p) "clear" X.env (eval (.Name x p) X.env) = eval (.Name x p) X.env := by rfl) (hline : (apos.endLine == cpos.line) = true := by rfl)
    (hsw : swapsWith (.Call (.Attribute (.Name x p) "clear" apos) [] [] cpos) none pos.line X.env = pure false := by rfl) :
    PDS X Y (.Expr (.Call (.Attribute (.Name x p) "clear" apos) [] [] cpos) pos) (sClear i) := fun k => by
  refine impPS (ps_expr (pe_bm0 PySem.F.plainAttrs_list PySem.F.slot_list_clear PySem.F.type_list_clear mt_clear (pe_var hN hv hd hcd) hbase hline) hsw) fun N σ H ⟨O, ρ, s, q⟩ => ?_
  unfold sClear at q
  split at q
  · rename_i l hi
    obtain ⟨pl, hp, Op, rl⟩ := own_at s hi
    obtain ⟨_, vs, e, hl, rv⟩ := rl
    cases e
    refine ⟨.ref pl, hp, .inl ⟨rfl, vs, SqL.of hl⟩, pl, vs, rfl, rfl, hl, ?_⟩
    exact q O σ _ (Stp.own Op) (s.write (d' := .lst []) (o := .lst []) hi hp ⟨pl, _, rfl, upd_same, rfl⟩)
  · exact q.elim
/-- x[k] = e, x the def's own dict -/
theorem ds_dput {i : Nat} (hN : X.N[i]? = some x) (hb : PDw X Y b fb) (ha : PD X Y a fa) (hv : Vis X.env.scope x := by first | exact Or.inl rfl | exact Or.inr (Or.inl rfl) | exact Or.inr (Or.inr rfl)) (hd : (x == ("__debug__" : Str)) = false := by decide) (hcd : (x == ("__classdict__" : Str)) = false := by decide)
    (hs : swapsWith a (some (.Subscript (.Name x p) b pos')) pos.line X.env = pure false := by rfl) : PDS X Y (.Assign [.Subscript (.Name x p) b pos'] a pos) (sPutD i fb fa) := fun k => by
  refine impPS (ps_dput (hu_of k.rm) (pe_var hN hv hd hcd) (hb k) (ha k) hs) fun N σ H ⟨O, ρ, s, q⟩ => ?_
  unfold sPutD at q
  refine exp_then s q fun d ea q v H1 s1 r1 => ?_
  split at q
  · rename_i ks l hi
    obtain ⟨pl, hp, Op, rl⟩ := own_at (s.same s1) hi
    obtain ⟨_, vs, e, hl, hlen, rv⟩ := rl
    cases e
    refine ⟨.ref pl, hp, expw_then (s.same s1) (SPost.fwd (Stp.same s1) q) fun dk ek q2 u H2 s2 r2 => ?_⟩
    cases dk with
    | str z =>
      simp only at q2
      split at q2
      · rename_i hz
        obtain rfl : u = .str z := r2
        have hl2 := s2 _ _ hl
        refine ⟨pl, _, rfl, DPut.k (k := Sum.inr z) hl2 (by rw [len_sKeys hlen, lineD_eq]; exact hz), ?_⟩
        have s' := ((s.same s1).same s2).write (d' := .dct (dPutK z ks) (dPutV z d ks l)) (o := .dK (putK (sKeys ks vs) (Sum.inr z) v)) hi hp
          ⟨pl, vPut z v ks vs, rfl, by rw [upd_same, putK_s hlen], vPut_len hlen, RepL.mono (sub_upd Op) (fun _ z => .inl z) (rep_vPut (r1.same s2) hlen (rv.same s2))⟩
        exact q2 O σ _ ((Stp.same s2).trans (Stp.own Op)) s'
      · exact q2.elim
    | _ => exact q2.elim
  · exact q.elim
end
end Tw

set_option maxHeartbeats 2000000
namespace Tw
open PySem PySem.Spec L2
open PyProof.Rows hiding St
def putVv (x : Str) (y : V) : List Str → List V → List V
  | k :: ks, v :: vs => if x = k then y :: vs else v :: putVv x y ks vs
  | _, _ => [y]
theorem putF_k {f : Str} {y : V} : ∀ {ks : List Str} {vs : List V}, ks.length = vs.length → L2.putF f y (fKeys ks vs) = fKeys (putDk f ks) (putVv f y ks vs)
  | [], vs, e => by cases vs <;> simp_all [fKeys, putDk, putVv, L2.putF]
  | k :: ks, [], e => by simp at e
  | k :: ks, v :: vs, e => by
    have ih := putF_k (f := f) (y := y) (ks := ks) (vs := vs) (by simpa using e)
    by_cases q : f = k
    · subst q; simp [fKeys, putDk, putVv, L2.putF]
    · have q' : ¬ k = f := fun z => q z.symm
      simp [fKeys, putDk, putVv, L2.putF, q, q', ih]
theorem putVv_len {f : Str} {y : V} : ∀ {ks : List Str} {vs : List V}, ks.length = vs.length → (putDk f ks).length = (putVv f y ks vs).length
  | [], vs, e => by cases vs <;> simp_all [putDk, putVv]
  | k :: ks, [], e => by simp at e
  | k :: ks, v :: vs, e => by
    have ih := putVv_len (f := f) (y := y) (ks := ks) (vs := vs) (by simpa using e)
    by_cases q : f = k
    · subst q; simp [putDk, putVv]; simpa using e
    · simp [putDk, putVv, q, ih]
theorem putDk_mem {f g : Str} : ∀ {ks : List Str}, g ∈ putDk f ks → g = f ∨ g ∈ ks
  | [], h => .inl (by simpa [putDk] using h)
  | k :: ks, h => by
    unfold putDk at h
    by_cases q : f = k
    · rw [if_pos q] at h; exact .inr h
    · rw [if_neg q] at h
      rcases List.mem_cons.mp h with e | h
      · exact .inr (by rw [e]; exact List.mem_cons_self)
      · rcases putDk_mem h with e | h
        · exact .inl e
        · exact .inr (List.mem_cons_of_mem _ h)
theorem repGL_put {G : Gc} {Z : Addr → Prop} {α : Nat → Addr} {ρ : DEnv} {H : Hp} {f : Str} {d : D} {y : V} (ry : RepG G Z α ρ H d y) : ∀ {ks : List Str} {l : List D} {vs : List V}, ks.length = vs.length → RepGL G Z α ρ H l vs → RepGL G Z α ρ H (putDv f d ks l) (putVv f y ks vs)
  | [], l, vs, e, r => by
    obtain rfl : vs = [] := by cases vs <;> simp_all
    unfold putDv putVv
    exact ⟨y, [], rfl, ry, rfl⟩
  | k :: ks, l, [], e, r => by simp at e
  | k :: ks, [], v :: vs, e, r => by cases (show v :: vs = [] from r)
  | k :: ks, d' :: l, v :: vs, e, r => by
    obtain ⟨v', w, e', r1, r2⟩ := r
    cases e'
    by_cases q : f = k
    · subst q
      simp only [putDv, putVv, if_pos]
      exact ⟨y, _, rfl, ry, r2⟩
    · simp only [putDv, putVv, if_neg q]
      exact ⟨v, _, rfl, r1, repGL_put ry (by simpa using e) r2⟩
theorem RepG.of {G : Gc} {Z : Addr → Prop} {α : Nat → Addr} {ρ : DEnv} {H : Hp} {d : D} {v : V} (h : Rep G Z H d v) : RepG G Z α ρ H d v := by
  cases d with
  | gst j => exact h.elim
  | _ => exact h
theorem isOwn_setSlf {ρ : DEnv} {i j : Nat} {d d' : D} (hi : ρ[i]? = some (some (.slf d))) : isOwn (ρ.set i (some (.slf d'))) j ↔ isOwn ρ j := by
  have hl : i < ρ.length := (List.getElem?_eq_some_iff.mp hi).1
  refine ⟨fun h => ?_, fun h => ?_⟩
  · rcases isOwn_set h with ⟨e, _⟩ | ⟨_, k⟩
    · rw [e]; exact ⟨d, .inr (.inl hi)⟩
    · exact k
  · by_cases hj : j = i
    · subst hj
      exact ⟨d', .inr (.inl (List.getElem?_set_self hl))⟩
    · obtain ⟨d'', h⟩ := h
      refine ⟨d'', ?_⟩
      rw [List.getElem?_set_ne (Ne.symm hj)]
      exact h
/-- the object under construction is changed in its place -/
theorem SR.mutS {Y : Cy} {O : Addr → Prop} {ρ : DEnv} {σ : L2.St} {H : Hp} {i : Nat} {d d' : D} (s : SR Y O ρ σ H) (hi : ρ[i]? = some (some (.slf d))) {f : Str} {dv : D} {y : V} (ry : Rep Y.G (Zo Y.Ze O) H dv y) (hp : putF f dv d = some d') :
    ∃ c ks l dx vs, d = .obj c ks l ∧ d' = .obj c (putDk f ks) (putDv f dv ks l) ∧ f ∈ fldOf c ∧ Y.G.has c ∧ ks.length < 999 ∧ ks.length = vs.length ∧ σ[i]? = some (some (.ref Y.sa)) ∧ O Y.sa ∧ H Y.sa = some (.ins (Y.G.cm c) dx (fKeys ks vs)) ∧
      SR Y O (ρ.set i (some (.slf d'))) σ (upd H Y.sa (.ins (Y.G.cm c) dx (L2.putF f y (fKeys ks vs)))) := by
  obtain ⟨α, s⟩ := s
  have hl : i < ρ.length := (List.getElem?_eq_some_iff.mp hi).1
  obtain ⟨ei, ea, c, ks, l, dx, vs, rfl, hH, ⟨hlen, hc, hf⟩, rl⟩ := s.slf i d hi
  have oi : isOwn ρ i := ⟨_, .inr (.inl hi)⟩
  have Oi : O (α i) := (s.oeq _).mpr ⟨i, oi, rfl⟩
  unfold putF at hp
  simp only at hp
  split at hp
  rotate_left
  · cases hp
  rename_i hpk
  cases hp
  rw [ea] at ei Oi hH
  have sub : ∀ j, isOwn (ρ.set i (some (.slf (.obj c (putDk f ks) (putDv f dv ks l))))) j ↔ isOwn ρ j := fun j => isOwn_setSlf hi
  have sb : Sub (Zo Y.Ze O) H (upd H Y.sa (.ins (Y.G.cm c) dx (L2.putF f y (fKeys ks vs)))) := fun a u n e => by
    rw [upd_ne fun q => n (.inr (by rw [q]; exact Oi))]
    exact e
  have an : ∀ j, isOwn ρ j → j ≠ i → α j ≠ Y.sa := fun j h n e => n (s.inj j i h oi (e.trans ea.symm))
  have rw' : ∀ {d : D} {p : Addr}, p ≠ Y.sa → RepW Y.G (Zo Y.Ze O) H d (.ref p) → RepW Y.G (Zo Y.Ze O) (upd H Y.sa (.ins (Y.G.cm c) dx (L2.putF f y (fKeys ks vs)))) d (.ref p) := fun {d p} hp r => by
    cases d with
    | lst l => obtain ⟨a, vs, e, t, r⟩ := r; cases e; exact ⟨_, vs, rfl, by rw [upd_ne hp]; exact t, r.mono sb fun _ q => .inl q⟩
    | dct ks l => obtain ⟨a, vs, e, t, k, r⟩ := r; cases e; exact ⟨_, vs, rfl, by rw [upd_ne hp]; exact t, k, r.mono sb fun _ q => .inl q⟩
    | obj c ks l => obtain ⟨a, dx, vs, e, t, k, r⟩ := r; cases e; exact ⟨_, dx, vs, rfl, by rw [upd_ne hp]; exact t, k, r.mono sb fun _ q => .inl q⟩
    | _ => exact Rep.mono sb (fun _ q => .inl q) r
  have gl : ∀ {ds : List D} {vs' : List V}, RepGL Y.G (Zo Y.Ze O) α ρ H ds vs' → RepGL Y.G (Zo Y.Ze O) α (ρ.set i (some (.slf (.obj c (putDk f ks) (putDv f dv ks l))))) (upd H Y.sa (.ins (Y.G.cm c) dx (L2.putF f y (fKeys ks vs)))) ds vs' := by
    intro ds
    induction ds with
    | nil => intro vs h; exact h
    | cons d ds ih =>
      intro vs h
      obtain ⟨v, r, e, h1, h2⟩ := h
      refine ⟨v, r, e, ?_, ih h2⟩
      cases d with
      | gst j =>
        obtain ⟨e, d'', kk⟩ := h1
        have hki : j ≠ i := fun e => by subst e; rw [hi] at kk; cases kk
        exact ⟨e, d'', by rw [List.getElem?_set_ne (Ne.symm hki)]; exact kk⟩
      | _ => exact Rep.mono sb (fun _ q => .inl q) h1
  refine ⟨c, ks, l, dx, vs, rfl, rfl, hpk.2, hc, hpk.1, hlen, ei, Oi, hH, α, by rw [List.length_set]; exact s.len, fun j d'' e => ?_, fun j d'' e => ?_, fun j d'' e => ?_, fun j d'' e => ?_, fun j k hj hk e => s.inj j k ((sub j).mp hj) ((sub k).mp hk) e, fun a => ?_, fun a z q => ?_, fun a z q => ?_⟩
  · rcases set_at e with ⟨_, q⟩ | ⟨_, q⟩
    · cases q
    · obtain ⟨v, e1, r⟩ := s.val j d'' q
      exact ⟨v, e1, r.mono sb fun _ q => .inl q⟩
  · rcases set_at e with ⟨_, q⟩ | ⟨hj, q⟩
    · cases q
    · obtain ⟨e1, n, r⟩ := s.own j d'' q
      exact ⟨e1, n, rw' (an j ⟨d'', .inl q⟩ hj) r⟩
  · rcases set_at e with ⟨rfl, q⟩ | ⟨hj, q⟩
    · cases q
      refine ⟨by rw [ei, ea], ea, c, _, _, dx, putVv f y ks vs, rfl, ?_, ⟨putVv_len hlen, hc, fun g hg => (putDk_mem hg).elim (fun e => by rw [e]; exact hpk.2) (hf g)⟩, repGL_put (RepG.of (ry.mono sb fun _ q => .inl q)) hlen (gl rl)⟩
      rw [ea, upd_same, putF_k hlen]
    · obtain ⟨e1, n, c, ks, l, dx, vs, e2, e3, e4, r⟩ := s.slf j d'' q
      exact absurd n (an j ⟨d'', .inr (.inl q)⟩ hj)
  · rcases set_at e with ⟨_, q⟩ | ⟨hj, q⟩
    · cases q
    · obtain ⟨r, k⟩ := s.gho j d'' q
      exact ⟨rw' (an j ⟨d'', .inr (.inr q)⟩ hj) r, k⟩
  · rw [s.oeq]
    exact ⟨fun ⟨j, k, e⟩ => ⟨j, (sub j).mpr k, e⟩, fun ⟨j, k, e⟩ => ⟨j, (sub j).mp k, e⟩⟩
  · by_cases h : a = Y.sa
    · subst h; rw [upd_same] at q; cases q
    · rw [upd_ne h] at q; exact s.zt a z q
  · by_cases h : a = Y.sa
    · subst h; rw [upd_same] at q; cases q
    · rw [upd_ne h] at q; exact s.ot a z q
theorem fKeys_len : ∀ {ks : List Str} {vs : List V}, ks.length = vs.length → (fKeys ks vs).length = ks.length
  | [], vs, e => by cases vs <;> simp_all [fKeys]
  | k :: ks, [], e => by simp at e
  | k :: ks, v :: vs, e => by simp [fKeys, fKeys_len (ks := ks) (vs := vs) (by simpa using e)]
section
variable {X : Cx} {Y : Cy} {a b e o tg : Expr} {fa fb : DE} {pos pos' p p2 : Pos} {x f : Str} {i : Nat}
/-- self.f = e -/
theorem ds_fld (hN : X.N[i]? = some x) (ha : PD X Y a fa) (hv : Vis X.env.scope x := by first | exact Or.inl rfl | exact Or.inr (Or.inl rfl) | exact Or.inr (Or.inr rfl)) (hd : (x == ("__debug__" : Str)) = false := by decide) (hcd : (x == ("__classdict__" : Str)) = false := by decide)
    (hs : swapsWith a (some (.Attribute (.Name x p) f pos')) pos.line X.env = pure false := by rfl) : PDS X Y (.Assign [.Attribute (.Name x p) f pos'] a pos) (sFld i f fa) := fun k => by
  refine impPS (ps_fld (pe_var hN hv hd hcd) (ha k) hs) fun N σ H ⟨O, ρ, s, q⟩ => ?_
  unfold sFld at q
  refine exp_then s q fun d ea q v H1 s1 r1 => ?_
  split at q
  · rename_i ds hi
    split at q
    · rename_i d' hp
      obtain ⟨c, ks, l, dx, vs, e1, e2, e3, e4, e5, e6, e7, e8, e9, s'⟩ := (s.same s1).mutS hi r1 hp
      refine ⟨_, e7, Y.sa, Y.G.cm c, dx, fKeys ks vs, rfl, e9, k.K ▸ Y.G.cls c e4, k.K ▸ Y.G.noat c f e4 e3, by rw [fKeys_len e6]; omega, ?_⟩
      exact q O σ _ ((Stp.same s1).trans (Stp.own e8)) s'
    · exact q.elim
  · exact q.elim
end
theorem envD_get {n : Nat} {ds : List D} {i : Nat} {x : Option Slot} (h : (envD n ds)[i]? = some x) : (∃ d, ds[i]? = some d ∧ x = some (.val d)) ∨ x = none := by
  unfold envD at h
  by_cases hi : i < ds.length
  · rw [List.getElem?_append_left (by simpa using hi), List.getElem?_map] at h
    obtain ⟨d, hd, e⟩ := Option.map_eq_some_iff.mp h
    exact .inl ⟨d, hd, e.symm⟩
  · rw [List.getElem?_append_right (by simpa using hi), List.getElem?_replicate] at h
    split at h
    · exact .inr (Option.some.inj h).symm
    · cases h
theorem envD_len {n : Nat} {ds : List D} (h : ds.length ≤ n) : (envD n ds).length = n := by
  unfold envD
  rw [List.length_append, List.length_map, List.length_replicate]
  omega
theorem start_get {N : List Str} {vs : List V} {i : Nat} {v : V} (h : vs[i]? = some v) : (start N vs)[i]? = some (some v) := by
  unfold L2.start
  rw [List.getElem?_append_left (by simpa using (List.getElem?_eq_some_iff.mp h).1), List.getElem?_map, h]
  rfl
theorem start_len {N : List Str} {vs : List V} (h : vs.length ≤ N.length) : (start N vs).length = N.length := by
  unfold L2.start
  rw [List.length_append, List.length_map, List.length_replicate]
  omega
theorem SR.start {Y : Cy} {N : List Str} {ds : List D} {vs : List V} {H : Hp} (hn : Y.n = N.length) (hl : ds.length ≤ N.length) (zt : ∀ a, Y.Ze a → H a ≠ none) (r : RepL Y.G Y.Ze H ds vs) : SR Y (fun _ => False) (envD N.length ds) (L2.start N vs) H := by
  have no : ∀ i, ¬ isOwn (envD N.length ds) i := fun i ⟨d, h⟩ => by
    rcases h with h | h | h
    all_goals
      rcases envD_get h with ⟨_, _, e⟩ | e
      · cases e
      · cases e
  have z : ∀ a, Zo Y.Ze (fun _ => False) a → Y.Ze a := fun a z => z.elim id False.elim
  refine ⟨fun _ => 0, ⟨by rw [start_len (by rw [← r.length]; exact hl), hn], by rw [envD_len hl, hn]; exact Nat.le_refl _⟩, fun i d e => ?_, fun i d e => absurd ⟨d, .inl e⟩ (no i), fun i d e => absurd ⟨d, .inr (.inl e)⟩ (no i), fun i d e => absurd ⟨d, .inr (.inr e)⟩ (no i), fun i j hi => absurd hi (no i), fun a => ⟨False.elim, fun ⟨i, h, _⟩ => no i h⟩, zt, fun a h => h.elim⟩
  rcases envD_get e with ⟨d', hd, e⟩ | e
  · cases e
    obtain ⟨v, hv, rv⟩ := r.get hd
    exact ⟨v, start_get hv, rv.weak z⟩
  · cases e
theorem SR.startS {Y : Cy} {N : List Str} {s : D} {ds : List D} {vs : List V} {H : Hp} (hn : Y.n = N.length) (hl : ds.length + 1 ≤ N.length) (zt : ∀ a, Y.Ze a → H a ≠ none) (ob : ObjAt Y.G Y.Ze H Y.sa s) (hz : Y.Ze Y.sa) (r : RepL Y.G Y.Ze H ds vs) :
    SR Y (fun a => a = Y.sa) (some (.slf s) :: envD (N.length - 1) ds) (L2.start N (.ref Y.sa :: vs)) H := by
  have on : ∀ i, isOwn (some (.slf s) :: envD (N.length - 1) ds) i ↔ i = 0 := fun i => by
    refine ⟨fun ⟨d, h⟩ => ?_, fun e => by subst e; exact ⟨s, .inr (.inl rfl)⟩⟩
    cases i with
    | zero => rfl
    | succ i =>
      rcases h with h | h | h
      all_goals
        rcases envD_get (i := i) (by simpa using h) with ⟨_, _, e⟩ | e
        · cases e
        · cases e
  have z : ∀ a, Zo Y.Ze (fun a => a = Y.sa) a → Y.Ze a := fun a z => z.elim id fun e => by rw [e]; exact hz
  have gl : ∀ {ρ : DEnv} {l : List D} {vs : List V}, RepL Y.G Y.Ze H l vs → RepGL Y.G (Zo Y.Ze fun a => a = Y.sa) (fun _ => Y.sa) ρ H l vs := by
    intro ρ l
    induction l with
    | nil => intro vs h; exact h
    | cons d l ih =>
      intro vs h
      obtain ⟨v, w, e, h1, h2⟩ := h
      exact ⟨v, w, e, RepG.of (h1.weak z), ih h2⟩
  obtain ⟨c, ks, l, dx, us, e1, e2, e3, e4⟩ := ob
  refine ⟨fun _ => Y.sa, ⟨by rw [start_len (by rw [List.length_cons, ← r.length]; exact hl), hn], by rw [List.length_cons, envD_len (by omega), hn]; omega⟩, fun i d e => ?_, fun i d e => ?_, fun i d e => ?_, fun i d e => ?_, fun i j hi hj _ => ((on i).mp hi).trans ((on j).mp hj).symm, fun a => ⟨fun h => ⟨0, (on 0).mpr rfl, h.symm⟩, fun ⟨i, _, h⟩ => h.symm⟩, zt, fun a h => by rw [h]; exact zt _ hz⟩
  · cases i with
    | zero => cases e
    | succ i =>
      rcases envD_get (i := i) (by simpa using e) with ⟨d', hd, e⟩ | e
      · cases e
        obtain ⟨v, hv, rv⟩ := r.get hd
        exact ⟨v, start_get (by simpa using hv), rv.weak z⟩
      · cases e
  · exact absurd ((on i).mp ⟨d, .inl e⟩) (fun h => by subst h; cases e)
  · obtain rfl := (on i).mp ⟨d, .inr (.inl e)⟩
    cases e
    exact ⟨start_get rfl, rfl, c, ks, l, dx, us, e1, e2, e3, gl e4⟩
  · exact absurd ((on i).mp ⟨d, .inr (.inr e)⟩) (fun h => by subst h; cases e)
section
variable {P : Program} {w : World} {K : PySem.W.Frag} {mg : Str → Option Value} {base : Heap} {x qual : Str} {params : Arguments} {body : List Stmt} {scope : Scope} {dvs : List V} {kws : List (Str × V)} {f : Addr} {fd : FuncData} {N ps : List Str} {k : Nat} {G : Gc} {b : DS}
theorem ExRep.weak {G : Gc} {Z Z' : Addr → Prop} {H : Hp} {e : Ex} {c : Value} {od : Option Addr} (z : ∀ a, Z' a → Z a) (h : ExRep G Z H e c od) : ExRep G Z' H e c od := by
  obtain ⟨e1, d, us, e2, e3, e4, e5⟩ := h
  exact ⟨e1, d, us, e2, e3, e4, e5.weak z⟩
/-- the context of a def's body -/
def cyOf (G : Gc) (Ze : Addr → Prop) (sa : Addr) (E : XK) (k : Nat) (N : List Str) : Cy := ⟨G, Ze, sa, fun c d _ H => E c d H, k, N.length⟩
theorem lk_of {cdv : Value} {A : Around} {outer : List Env} {s : Shared} {H : Hp} {E : XK} {Ze : Addr → Prop} {sa : Addr} (hK : G.K = K) (S : FnScope N ps scope) (hr : Room k (A.deeper (envOfC qual scope s.heap.objs.size f cdv))) :
    Lk (cxOf (L2.CX P w) P w K mg base N qual scope f cdv A outer s H E) (cyOf G Ze sa E k N) where
  K := hK.symm
  ln := rfl
  tk := takes_of rfl rfl rfl rfl
  rm := hr
  nd := S.nd
  po := passes_of rfl
  calm := rfl
theorem fn_dsp (F : FunD K x qual params body scope dvs kws f fd) (hK : G.K = K) (S : FnScope N ps scope) (hl : ps.length ≤ N.length)
    (hb : ∀ (cdv : Value) (A : Around) (outer : List Env) (s : Shared) (H : Hp) (E : XK) (Ze : Addr → Prop), PDSs (cxOf (L2.CX P w) P w K mg base N qual scope f cdv A outer s H E) (cyOf G Ze 0 E k N) body b) :
    FnOk P w K mg base (L2.CX P w) (k + 1) f fd ps (dsp G (defD N.length ps.length b)) := by
  have hlen : ∀ ds, (∀ (H : Hp) (Q : VK) (E : XK) (Ze : Addr → Prop), DPost G Ze H Q E (defD N.length ps.length b ds) → ds.length = ps.length) := fun ds H Q E Ze q => by
    unfold defD at q
    split at q
    · assumption
    · exact q.elim
  refine F.ok S (fun vs H Q E h => ?_) fun cdv A outer s H vs Q E hr h => ?_
  · obtain ⟨Ze, ds, _, r, q⟩ := h
    rw [← r.length]
    exact hlen ds H Q E Ze q
  · obtain ⟨Ze, ds, zt, r, q⟩ := h
    have hd := hlen ds H Q E Ze q
    refine ⟨_, hb cdv A outer s H E Ze (lk_of hK S hr), fun _ => False, envD N.length ds, SR.start (Y := cyOf G Ze 0 E k N) rfl (by rw [hd]; exact hl) zt r, ?_⟩
    unfold defD at q
    rw [if_pos hd] at q
    have sm : ∀ {O' : Addr → Prop} {H' : Hp}, Stp (fun _ => False) H O' H' → Same H H' := fun st a o e => st.1 a o (fun z => z) e
    have zw : ∀ {O' : Addr → Prop}, ∀ a, Ze a → Zo Ze O' a := fun a z => .inl z
    cases eb : b (envD N.length ds) with
    | no => rw [eb] at q; exact q.elim
    | ex e => rw [eb] at q; exact q.elim
    | ok o =>
      rw [eb] at q
      cases o with
      | nx ρ => exact fun O' σ' H' st s' => q .non H' (sm st) rfl
      | bk ρ => exact q.elim
      | ct ρ => exact q.elim
      | rt d ρ => exact fun O' σ' H' v st s' rv => q v H' (sm st) (Rep.weak zw rv)
      | xx e ρ => exact fun O' σ' H' c od st s' xr => q c od H' (sm st) (xr.weak zw)
theorem RepGL.plain {G : Gc} {Z : Addr → Prop} {α : Nat → Addr} {ρ : DEnv} {H : Hp} : ∀ {l : List D} {vs : List V}, noGst l = true → RepGL G Z α ρ H l vs → RepL G Z H l vs
  | [], vs, _, h => h
  | d :: l, vs, n, h => by
    obtain ⟨v, r, e, h1, h2⟩ := h
    cases d with
    | gst j => cases n
    | _ => exact ⟨v, r, e, h1, RepGL.plain n h2⟩
theorem fn_init (F : FunD K x qual params body scope dvs kws f fd) (hK : G.K = K) (S : FnScope N ps scope) (hl : ps.length ≤ N.length)
    (hb : ∀ (cdv : Value) (A : Around) (outer : List Env) (s : Shared) (H : Hp) (E : XK) (Ze : Addr → Prop) (sa : Addr), PDSs (cxOf (L2.CX P w) P w K mg base N qual scope f cdv A outer s H E) (cyOf G Ze sa E k N) body b) :
    FnOk P w K mg base (L2.CX P w) (k + 1) f fd ps (dspM G (initP N.length ps.length b)) := by
  have hlen : ∀ s ds, (∀ (H : Hp) (Q : VK) (E : XK) (Ze : Addr → Prop) (a : Addr), IPost G Ze a H Q E (initP N.length ps.length b s ds) → ds.length + 1 = ps.length) := fun s ds H Q E Ze a q => by
    unfold initP at q
    split at q
    · assumption
    · exact q.elim
  refine F.ok S (fun vs H Q E h => ?_) fun cdv A outer s H vs Q E hr h => ?_
  · obtain ⟨Ze, a, s, us, ds, rfl, _, _, _, r, q⟩ := h
    rw [List.length_cons, ← r.length]
    exact hlen s ds H Q E Ze a q
  · obtain ⟨Ze, a, so, us, ds, rfl, hz, zt, ob, r, q⟩ := h
    have hd := hlen so ds H Q E Ze a q
    refine ⟨_, hb cdv A outer s H E Ze a (lk_of hK S hr), fun b => b = a, some (.slf so) :: envD (N.length - 1) ds, SR.startS (Y := cyOf G Ze a E k N) rfl (by rw [hd]; exact hl) zt ob hz r, ?_⟩
    unfold initP at q
    rw [if_pos hd] at q
    have sm : ∀ {O' : Addr → Prop} {H' : Hp}, Stp (fun b => b = a) H O' H' → ∀ b o, b ≠ a → H b = some o → H' b = some o := fun st b o n e => st.1 b o n e
    have zw : ∀ {O' : Addr → Prop}, ∀ a, Ze a → Zo Ze O' a := fun a z => .inl z
    have fin : ∀ {O' : Addr → Prop} {σ' : L2.St} {H' : Hp} {d : D} {ρ : DEnv} {v : V}, IPost G Ze a H Q E (slfP ρ d) → Stp (fun b => b = a) H O' H' → SR (cyOf G Ze a E k N) O' ρ σ' H' → Rep G Ze H' d v → Q v H' := by
      intro O' σ' H' d ρ v q st s' rv
      unfold slfP at q
      split at q
      · rename_i c ks l tl
        split at q
        · rename_i hg
          obtain ⟨α, s'⟩ := s'
          obtain ⟨e1, e2, c', ks', l', dx, vs, e3, e4, e5, e6⟩ := s'.slf 0 (.obj c ks l) rfl
          cases e3
          rw [e2] at e4
          exact q v H' (sm st) ⟨c, ks, l, dx, vs, rfl, e4, e5, (e6.plain hg).weak zw⟩ rv
        · exact q.elim
      · exact q.elim
    cases eb : b (some (.slf so) :: envD (N.length - 1) ds) with
    | no => rw [eb] at q; exact q.elim
    | ex e => rw [eb] at q; exact q.elim
    | ok o =>
      rw [eb] at q
      cases o with
      | nx ρ => exact fun O' σ' H' st s' => fin q st s' rfl
      | bk ρ => exact q.elim
      | ct ρ => exact q.elim
      | rt d ρ => exact fun O' σ' H' v st s' rv => fin q st s' (Rep.weak zw rv)
      | xx e ρ => exact fun O' σ' H' c od st s' xr => q c od H' (sm st) (xr.weak zw)
end
mutual
theorem Rep.nolst {G : Gc} {Z Z' : Addr → Prop} {H : Hp} (z : ∀ a, Z' a → Z a ∨ ∃ vs, H a = some (.lst vs)) : ∀ {d : D} {v : V}, noL d = true → Rep G Z H d v → Rep G Z' H d v
  | .non, v, _, h => h
  | .bl b, v, _, h => h
  | .int i, v, _, h => h
  | .str x, v, _, h => h
  | .cls n, v, _, h => h
  | .gst j, v, n, h => by cases n
  | .scr ns, v, n, h => by cases n
  | .lst l, v, n, h => by cases n
  | .dct ks l, v, n, h => by cases n
  | .tup l, v, n, h => by
    obtain ⟨a, vs, e, t, r⟩ := h
    refine ⟨a, vs, e, ?_, RepL.nolst z (by simpa [noL] using n) r⟩
    rcases t with ⟨nz, t⟩ | t
    · exact .inl ⟨fun q => (z a q).elim nz fun ⟨us, e⟩ => (by rw [t] at e; cases e), t⟩
    · exact .inr t
  | .obj c ks l, v, n, h => by
    obtain ⟨a, dx, vs, e, nz, t, k, r⟩ := h
    exact ⟨a, dx, vs, e, fun q => (z a q).elim nz fun ⟨us, e⟩ => (by rw [t] at e; cases e), t, k, RepL.nolst z (by simpa [noL] using n) r⟩
theorem RepL.nolst {G : Gc} {Z Z' : Addr → Prop} {H : Hp} (z : ∀ a, Z' a → Z a ∨ ∃ vs, H a = some (.lst vs)) : ∀ {ds : List D} {vs : List V}, noLs ds = true → RepL G Z H ds vs → RepL G Z' H ds vs
  | [], vs, _, h => h
  | d :: ds, vs, n, h => by
    obtain ⟨v, r, e, h1, h2⟩ := h
    obtain ⟨n1, n2⟩ := Bool.and_eq_true_iff.mp (by simpa [noLs] using n)
    exact ⟨v, r, e, Rep.nolst z n1 h1, RepL.nolst z n2 h2⟩
end
section
variable {X : Cx} {Y : Cy} {O : Addr → Prop} {ρ : DEnv} {σ : L2.St} {H : Hp} {a : Expr} {fa : DE}
theorem frzD_get {i j : Nat} {ρ : DEnv} {d : D} (h : (frzD i ρ)[j]? = some (some (.own d))) : ρ[j]? = some (some (.own d)) := by
  unfold frzD at h
  split at h
  · rcases set_at h with ⟨_, q⟩ | ⟨_, q⟩
    · cases q
    · exact q
  · exact h
theorem lendOk_step {i : Nat} {is : List Nat} {ρ : DEnv} (h : lendOk is ρ = true) : lendOk is (frzD i ρ) = true := by
  unfold lendOk at h ⊢
  refine List.all_eq_true.mpr fun j hj => ?_
  have k := List.all_eq_true.mp h j hj
  cases e : (frzD i ρ)[j]? with
  | none => rfl
  | some x =>
    cases x with
    | none => rfl
    | some y =>
      cases y with
      | own d =>
        rw [frzD_get e] at k
        cases d <;> first | rfl | cases k
      | _ => rfl
theorem lend_SR : ∀ (is : List Nat) {O : Addr → Prop} {ρ : DEnv}, lendOk is ρ = true → SR Y O ρ σ H → ∃ O', (∀ a, O' a → O a) ∧ SR Y O' (is.foldl (fun r i => frzD i r) ρ) σ H ∧ ∀ a, O a → O' a ∨ ∃ vs, H a = some (.lst vs)
  | [], O, ρ, _, s => ⟨O, fun _ h => h, s, fun _ h => .inl h⟩
  | i :: is, O, ρ, h, s => by
    have h' : ((match ρ[i]? with | some (some (.own (.lst _))) => true | some (some (.own _)) => false | _ => true) && lendOk is ρ) = true := h
    obtain ⟨h1, h2⟩ := Bool.and_eq_true_iff.mp h'
    have : ∃ O1, (∀ a, O1 a → O a) ∧ SR Y O1 (frzD i ρ) σ H ∧ ∀ a, O a → O1 a ∨ ∃ vs, H a = some (.lst vs) := by
      cases e : ρ[i]? with
      | none => unfold frzD; rw [e]; exact ⟨O, fun _ h => h, s, fun _ h => .inl h⟩
      | some x =>
        cases x with
        | none => unfold frzD; rw [e]; exact ⟨O, fun _ h => h, s, fun _ h => .inl h⟩
        | some y =>
          cases y with
          | own d =>
            rw [e] at h1
            cases d with
            | lst l =>
              obtain ⟨O', k1, k2, k3⟩ := s.frz e
              refine ⟨O', k1, by unfold frzD; rw [e]; exact k2, fun a z => (k3 a z).imp id fun r => ?_⟩
              obtain ⟨p, vs, e, t, _⟩ := r
              cases e
              exact ⟨vs, t⟩
            | _ => cases h1
          | _ => unfold frzD; rw [e]; exact ⟨O, fun _ h => h, s, fun _ h => .inl h⟩
    obtain ⟨O1, k1, s1, k3⟩ := this
    obtain ⟨O2, j1, s2, j3⟩ := lend_SR is (lendOk_step h2) s1
    exact ⟨O2, fun a z => k1 a (j1 a z), s2, fun a z => (k3 a z).elim (fun z => j3 a z) .inr⟩
theorem pd_lend (is : List Nat) (ha : PD X Y a fa) : PD X Y a (eLend is fa) := fun k => impPE (ha k) fun σ H Q ⟨O, ρ, s, q⟩ => by
  unfold eLend at q
  split at q
  rotate_left
  · exact q.elim
  rename_i hl
  obtain ⟨O', k1, s', k3⟩ := lend_SR is hl s
  refine ⟨O', _, s', ?_⟩
  have zz : ∀ {H' : Hp}, Same H H' → ∀ a, Zo Y.Ze O a → Zo Y.Ze O' a ∨ ∃ vs, H' a = some (.lst vs) := fun sm a z => z.elim (fun z => .inl (.inl z)) fun z => (k3 a z).imp .inr fun ⟨vs, e⟩ => ⟨vs, sm _ _ e⟩
  cases e : fa (is.foldl (fun r i => frzD i r) ρ) with
  | no => rw [e] at q; exact q
  | ok d =>
    rw [e] at q
    simp only at q
    split at q
    · rename_i hn
      exact fun v H' sm r => q v H' sm (Rep.nolst (zz sm) hn r)
    · exact q.elim
  | ex x =>
    rw [e] at q
    simp only at q
    split at q
    · rename_i hn
      intro c od H' sm xr
      obtain ⟨e1, d, us, e2, e3, e4, e5⟩ := xr
      exact q c od H' sm ⟨e1, d, us, e2, e3, e4, RepL.nolst (zz sm) hn e5⟩
    · exact q.elim
end
end Tw

set_option maxHeartbeats 2000000
namespace Tw
open PySem PySem.Spec L2
open PyProof.Rows hiding St
abbrev FrB := PySem.W.Frag → Bool
def obsT (fb : List FrB) (fa : List He.Fa) (fn : List He5.DefA) (K : PySem.W.Frag) : He.AlD := ((fb.all fun f => f K) && ((fa.all fun f => f.ok K) && fn.all fun d => d.ok K), fn.map fun d => He5.fnA K (d.at_ K))
def valT (fn : List He5.DefA) : He.AlD := (true, fn.map He5.DefA.val)
def SaysT (fb : List FrB) (fa : List He.Fa) (fn : List He5.DefA) (K : PySem.W.Frag) : Prop := obsT fb fa fn K = valT fn
def obsTG (n : Nat) (fb : List FrB) (fa : List He.Fa) (fn : List He5.DefA) (g : Addr → Option Obj) : He.AlD := obsT fb fa fn (He.frG g (He5.asA g n))
def hookT (n : Nat) (fb : List FrB) (fa : List He.Fa) (fn : List He5.DefA) : PySem.W.Hook where
  α := He.AlD
  obs := fun s => obsTG n fb fa fn s.heap.get?
  val := fun _ => valT fn
  says := fun _ hp => ∃ K : PySem.W.Frag, K.In hp ∧ SaysT fb fa fn K
  of := fun _ _ z => ⟨_, He.frG_in, z⟩
  keeps := fun _ _ _ ⟨K, kin, z⟩ up => ⟨K, PySem.W.Frag.In.keeps kin up, z⟩
theorem obsTG_eq {n : Nat} {fb : List FrB} {fa : List He.Fa} {fn : List He5.DefA} {g : Addr → Option Obj} {s : Shared} (h : ∀ a, g a = s.heap.get? a) : obsTG n fb fa fn g = (hookT n fb fa fn).obs s := by
  obtain rfl : g = s.heap.get? := funext h
  rfl
section
variable {fb : List FrB} {fa : List He.Fa} {fn : List He5.DefA} {K : PySem.W.Frag}
theorem SaysT.all3 (c : SaysT fb fa fn K) : (fb.all fun f => f K) = true ∧ (fa.all fun f => f.ok K) = true ∧ (fn.all fun d => d.ok K) = true := by
  have z : ((fb.all fun f => f K) && ((fa.all fun f => f.ok K) && fn.all fun d => d.ok K)) = true := congrArg Prod.fst c
  obtain ⟨z1, z⟩ := Bool.and_eq_true_iff.mp z
  obtain ⟨z2, z3⟩ := Bool.and_eq_true_iff.mp z
  exact ⟨z1, z2, z3⟩
theorem SaysT.own (c : SaysT fb fa fn K) (i : Nat) {f : FrB} (h : fb[i]? = some f := by rfl) : f K = true := List.all_eq_true.mp c.all3.1 f (List.mem_of_getElem? h)
theorem SaysT.fact (c : SaysT fb fa fn K) (i : Nat) {f : He.Fa} (h : fa[i]? = some f := by rfl) : f.ok K = true := List.all_eq_true.mp c.all3.2.1 f (List.mem_of_getElem? h)
theorem SaysT.def_ (c : SaysT fb fa fn K) (i : Nat) {d : He5.DefA} (h : fn[i]? = some d := by rfl) : ∃ fd, L2.FunD K d.name d.qual d.params d.body d.scope (d.dvs K) (d.kws K) (d.at_ K) fd := by
  have z : fn.map (fun d => He5.fnA K (d.at_ K)) = fn.map He5.DefA.val := congrArg Prod.snd c
  have z1 : (fn.map fun d => He5.fnA K (d.at_ K))[i]? = (fn.map He5.DefA.val)[i]? := by rw [z]
  rw [List.getElem?_map, List.getElem?_map, h] at z1
  exact He5.DefA.funD (Option.some.inj z1) (List.all_eq_true.mp c.all3.2.2 d (List.mem_of_getElem? h))
end
def cmOf (K : PySem.W.Frag) (c : String) : Addr := He.ga K (Str.ofString c)
def gAd (x : Str) (K : PySem.W.Frag) : Addr := He.ga K x
def mAd (c m : Str) (K : PySem.W.Frag) : Addr := He.ma K (He.ga K c) m
def sAd (c m : Str) (K : PySem.W.Frag) : Addr := He5.wf K (He.ga K c) "staticmethod" m
def cAd (c m : Str) (K : PySem.W.Frag) : Addr := He5.wf K (He.ga K c) "classmethod" m
/-- a staticmethod read off its class -/
def smB (c m : Str) : FrB := fun K => decide (PySem.W.readsIn K (He.ga K c) (.type "type") = true) && (decide (PySem.W.specialIn K (.ref (He.ga K c)) "__getattribute__" = some (some (.builtin "type.__getattribute__"))) &&
  (He5.wrapB K (He.ga K c) "staticmethod" "staticmethod.__get__" m && PySem.W.keepIn K (.ref (sAd c m K))))
theorem smB_ok {K : PySem.W.Frag} {c m : Str} (h : smB c m K = true) : CFn K (He.ga K c) m (sAd c m K) := by
  obtain ⟨h1, h⟩ := Bool.and_eq_true_iff.mp h
  obtain ⟨h2, h⟩ := Bool.and_eq_true_iff.mp h
  obtain ⟨h3, h4⟩ := Bool.and_eq_true_iff.mp h
  obtain ⟨w1, r, w2⟩ := He5.wrapB_ok h3
  exact ⟨of_decide_eq_true h1, of_decide_eq_true h2, .inr ⟨_, r, w1, w2⟩, h4⟩
/-- a plain def read off its class -/
def pmB (c m : Str) : FrB := fun K => decide (PySem.W.readsIn K (He.ga K c) (.type "type") = true) && (decide (PySem.W.specialIn K (.ref (He.ga K c)) "__getattribute__" = some (some (.builtin "type.__getattribute__"))) &&
  ((match PySem.W.findCls K (.ref (He.ga K c)) (.type "type") m with
    | some (.val (.ref a)) => decide (a = mAd c m K)
    | _ => false) && PySem.W.keepIn K (.ref (mAd c m K))))
theorem pmB_ok {K : PySem.W.Frag} {c m : Str} (h : pmB c m K = true) : CFn K (He.ga K c) m (mAd c m K) := by
  obtain ⟨h1, h⟩ := Bool.and_eq_true_iff.mp h
  obtain ⟨h2, h⟩ := Bool.and_eq_true_iff.mp h
  obtain ⟨h3, h4⟩ := Bool.and_eq_true_iff.mp h
  refine ⟨of_decide_eq_true h1, of_decide_eq_true h2, .inl ?_, h4⟩
  split at h3
  · rename_i a e
    rw [e, of_decide_eq_true h3]
  · cases h3
section
variable {X : Cx} {Y : Cy} {pos : Pos} {x : Str}
theorem pd_gstr {z : Str} (hg : Gl X x) (hm : ∃ t, X.mg x = some (.str z t)) (hd : (x == ("__debug__" : Str)) = false := by decide) : PD X Y (.Name x pos) (eC (.str z)) := by
  obtain ⟨t, hm⟩ := hm
  exact pd_glob (v := .str z) hg hm ⟨t, rfl⟩ (fun _ _ => rfl) hd
theorem pd_gint {z : Int} (hg : Gl X x) (hm : ∃ t, X.mg x = some (.int z t)) (hd : (x == ("__debug__" : Str)) = false := by decide) : PD X Y (.Name x pos) (eC (.int z)) := by
  obtain ⟨t, hm⟩ := hm
  exact pd_glob (v := .int z) hg hm ⟨t, rfl⟩ (fun _ _ => rfl) hd
end
/-- exceptions of any world -/
def CXw (P : Program) : CXT := fun outer H s E e s' => ∃ w, L2.CX P w outer H s E e s'
theorem FnOk.anyW {P : Program} {w : World} {K : PySem.W.Frag} {mg : Str → Option Value} {base : Heap} {k : Nat} {f : Addr} {fd : FuncData} {ps : List Str} {sp : Sp} (F : FnOk P w K mg base (L2.CX P w) k f fd ps sp) : FnOk P w K mg base (CXw P) k f fd ps sp :=
  ⟨F.len, fun A outer s H args us vs Q E hr e0 hb hv hs => codeAny_mono (F.run A outer s H args us vs Q E hr e0 hb hv hs) fun r s' q => by
    cases r with
    | ok fl => cases fl <;> exact q
    | error e => exact ⟨w, q⟩⟩
theorem CXw.no {P : Program} {H : Hp} {s : Shared} {e : Value} {s' : Shared} (c : CXw P [] H s (fun _ _ _ => False) e s') : False := by
  obtain ⟨w, a, B, H', cls, d, _, _, _, _, _, _, _, z⟩ := c
  exact z
end Tw

namespace Tw
open PySem
def b_law_row_1 : DS := sSeq (sApp 3 (e2 oMod (e1 oInt (eVar 4)) (eVar 5))) (sSet 4 (e2 oFdiv (e1 oInt (eVar 4)) (eVar 5)))
def b_law_row_2 : DS := sSeq (sSet 7 (e2 oMod (e1 oInt (e2 oAdd (e2 oAdd (e2 oAdd (e2 oMul (eVar 4) (eC (.int 48271))) (e2 oMul (eVar 1) (eC (.int 7919)))) (e2 oMul (eVar 6) (eC (.int 69621)))) (eC (.int 11)))) (eC (.int 2147483647)))) (sSeq (sSet 7 (e2 oMod (e1 oInt (e2 oAdd (e2 oAdd (e2 oMul (eVar 7) (e2 oAdd (e2 oFdiv (eVar 7) (eC (.int 1024))) (eC (.int 16807)))) (eVar 4)) (eVar 6))) (eC (.int 2147483399)))) (sApp 3 (e2 oMod (e1 oInt (e2 oFdiv (eVar 7) (eC (.int 11)))) (e2 oIx (eVar 2) (eVar 6)))))
def b_law_row : DS := sSeq (sOwn 3 (eLst (aNil))) (sSeq (sSet 4 (e1 oAbs (e1 oInt (eVar 0)))) (sSeq (sIf (tVal (e2 oGe (eVar 4) (e2 oPow (eC (.int 10)) (eC (.int 18))))) (sSeq (sFor (iOf (eVar 2)) (gVar 5) [5] b_law_row_1) (sFrz [3] (sRet (eVar 3)))) (sNext)) (sSeq (sFor (iRange (e1 oLen (eVar 2))) (gVar 6) [6, 7] b_law_row_2) (sFrz [3] (sRet (eVar 3))))))
def d_law_row : List D → R D := defD 8 3 b_law_row
def b_law_cell : DS := sSeq (sIf (tVal (e2 oLt (eVar 1) (e1 oLen (eVar 0)))) (sRet (e1 oInt (e2 oIx (eVar 0) (eVar 1)))) (sNext)) (sRet (e2 oMod (e1 oInt (e2 oAdd (e2 oAdd (e2 oMul (e1 oSum (eVar 0)) (eC (.int 31))) (e2 oMul (eVar 1) (eC (.int 1009)))) (e1 oLen (eVar 0)))) (eC (.int 1000003))))
def d_law_cell : List D → R D := defD 2 2 b_law_cell
def b_law_word : DS := sSeq (sSet 2 (eC (.str "ABCDEFGHIJKLMNOPQRSTUVWXYZabcdefghijklmnopqrstuvwxyz"))) (sSeq (sSet 3 (e2 oIx (eLst (aCons (eC (.str "")) (aCons (eC (.str "q")) (aCons (eC (.str "Zx")) (aCons (eC (.str "n7w")) (aNil)))))) (e2 oMod (e1 oInt (eVar 0)) (eC (.int 4))))) (sSeq (sSet 4 (e2 oIx (eLst (aCons (eC (.str "")) (aCons (eC (.str "0")) (aCons (eC (.str "aB")) (aCons (eC (.str "9k")) (aNil)))))) (e2 oMod (e2 oFdiv (e1 oInt (eVar 0)) (eC (.int 4))) (eC (.int 4))))) (sSeq (sIf (tVal (e2 oEq (e2 oMod (e2 oFdiv (e1 oInt (eVar 0)) (eC (.int 16))) (eC (.int 2))) (eC (.int 1)))) (sSet 4 (e2 oAdd (eVar 4) (e2 oMul (eC (.str "z")) (e1 oInt (e2 oMod (e1 oInt (eVar 1)) (eC (.int 2))))))) (sNext)) (sSeq (sIf (tVal (e2 oGe (eVar 1) (eC (.int 52)))) (sSet 4 (e2 oAdd (eC (.str "y")) (eVar 4))) (sNext)) (sRet (e2 oAdd (e2 oAdd (eVar 3) (e2 oIx (eVar 2) (e2 oMod (e1 oInt (e2 oAdd (e2 oMul (eVar 1) (eC (.int 5))) (e2 oFdiv (e1 oInt (eVar 0)) (eC (.int 32))))) (eC (.int 52))))) (eVar 4)))))))
def d_law_word : List D → R D := defD 5 2 b_law_word
def b_Titled_is_word_1 : DS := sIf (tAndD (tVal (e2 oNotIn (eVar 1) (eC (.str "ABCDEFGHIJKLMNOPQRSTUVWXYZabcdefghijklmnopqrstuvwxyz")))) (tVal (e2 oNotIn (eVar 1) (eC (.str "0123456789"))))) (sRet (eC (.bl false))) (sNext)
def b_Titled_is_word : DS := sSeq (sIf (tOrD (tVal (e2 oLt (e1 oLen (eVar 0)) (eC (.int 1)))) (tOrD (tVal (e2 oGt (e1 oLen (eVar 0)) (eC (.int 8)))) (tVal (e2 oNotIn (e2 oIx (eVar 0) (eC (.int 0))) (eC (.str "ABCDEFGHIJKLMNOPQRSTUVWXYZabcdefghijklmnopqrstuvwxyz")))))) (sRet (eC (.bl false))) (sNext)) (sSeq (sFor (iOf (eVar 0)) (gVar 1) [1] b_Titled_is_word_1) (sRet (eC (.bl true))))
def d_Titled_is_word : List D → R D := defD 2 1 b_Titled_is_word
def b_Declaring_init_1 : DS := sSeq (sIf (tNotD (tTru (eCall d_Titled_is_word (aCons (eVar 4) (aNil))))) (sNever) (sNext)) (sSeq (sIf (tVal (e2 oIn (eVar 4) (eLook 3))) (sNever) (sNext)) (sApp 3 (eVar 4)))
def b_Declaring_init : DS := sSeq (sOwn 3 (eLst (aNil))) (sSeq (sFor (iOf (e2 oAdd (e1 oList (eVar 1)) (e1 oList (eVar 2)))) (gVar 4) [4] b_Declaring_init_1) (sSeq (sFld 0 "names" (e1 oTuple (eVar 1))) (sFld 0 "statics" (e1 oTuple (eVar 2)))))
def d_Declaring_init : D → List D → R (D × D) := initP 5 3 b_Declaring_init
def b_Declaring_declares : DS := sRet (eOr (e2 oIn (eVar 1) (e1 (oFld "names") (eVar 0))) (e2 oIn (eVar 1) (e1 (oFld "statics") (eVar 0))))
def d_Declaring_declares : List D → R D := defD 2 2 b_Declaring_declares
def b_Declaring_is_static : DS := sRet (e2 oIn (eVar 1) (e1 (oFld "statics") (eVar 0)))
def d_Declaring_is_static : List D → R D := defD 2 2 b_Declaring_is_static
end Tw

namespace Tw
open PySem
/-- a loop that runs through: what holds ahead of each turn -/
theorem forL_inv {g : DG} {cl : List Nat} {b : DS} (I : Nat → DEnv → Prop) : ∀ (l : List D) (n : Nat) (ρ : DEnv), I n ρ →
    (∀ i d ρ, l[i]? = some d → I (n + i) ρ → ∃ ρ', ((g d ρ).bind b = .ok (.nx ρ') ∨ (g d ρ).bind b = .ok (.ct ρ')) ∧ I (n + i + 1) (clrD cl ρ')) →
    ∃ ρ', forL g cl b l ρ = .ok (.nx ρ') ∧ I (n + l.length) ρ'
  | [], n, ρ, h, _ => ⟨ρ, rfl, h⟩
  | d :: l, n, ρ, h, hs => by
    obtain ⟨ρ1, e, h1⟩ := hs 0 d ρ rfl h
    obtain ⟨ρ2, e2, h2⟩ := forL_inv I l (n + 1) (clrD cl ρ1) h1 fun i d ρ hd hI => by
      have := hs (i + 1) d ρ (by simpa using hd) (by rw [show n + (i + 1) = n + 1 + i by omega]; exact hI)
      rwa [show n + (i + 1) + 1 = n + 1 + i + 1 by omega] at this
    refine ⟨ρ2, ?_, by rw [List.length_cons, show n + (l.length + 1) = n + 1 + l.length by omega]; exact h2⟩
    rcases e with e | e
    · simp only [forL, e]; exact e2
    · simp only [forL, e]; exact e2
theorem forL_ok {g : DG} {cl : List Nat} {b : DS} (I : Nat → DEnv → Prop) (l : List D) (ρ : DEnv) (h : I 0 ρ)
    (hs : ∀ i d ρ, l[i]? = some d → I i ρ → ∃ ρ', ((g d ρ).bind b = .ok (.nx ρ') ∨ (g d ρ).bind b = .ok (.ct ρ')) ∧ I (i + 1) (clrD cl ρ')) :
    ∃ ρ', forL g cl b l ρ = .ok (.nx ρ') ∧ I l.length ρ' := by
  obtain ⟨ρ', e, k⟩ := forL_inv I l 0 ρ h fun i d ρ hd hI => by
    rw [Nat.zero_add] at hI ⊢
    exact hs i d ρ hd hI
  rw [Nat.zero_add] at k
  exact ⟨ρ', e, k⟩
/-- the state ahead of each turn, told -/
theorem forL_st {g : DG} {cl : List Nat} {b : DS} (s : Nat → DEnv) (l : List D) (hs : ∀ i d, l[i]? = some d → ∃ ρ', ((g d (s i)).bind b = .ok (.nx ρ') ∨ (g d (s i)).bind b = .ok (.ct ρ')) ∧ clrD cl ρ' = s (i + 1)) :
    forL g cl b l (s 0) = .ok (.nx (s l.length)) := by
  obtain ⟨ρ', e, k⟩ := forL_ok (g := g) (cl := cl) (b := b) (fun i ρ => ρ = s i) l (s 0) rfl fun i d ρ hd hI => by
    subst hI
    exact hs i d hd
  rw [e, k]
/-- a comprehension whose turns are known -/
theorem compL_ok {g : DG} {c : DT} {e : DE} {ρ : DEnv} (p : D → Bool) (f : D → D) : ∀ (l : List D), (∀ d ∈ l, ∃ ρ', g d ρ = .ok ρ' ∧ c ρ' = .ok (p d) ∧ (p d = true → e ρ' = .ok (f d))) → compL g c e ρ l = .ok ((l.filter p).map f)
  | [], _ => rfl
  | d :: l, h => by
    obtain ⟨ρ', e1, e2, e3⟩ := h d List.mem_cons_self
    have ih := compL_ok p f l fun d hd => h d (List.mem_cons_of_mem _ hd)
    unfold compL
    rw [e1]
    simp only [e2]
    cases hp : p d with
    | true =>
      simp only [e3 hp, ih, List.filter_cons, hp, if_true, List.map_cons]
    | false =>
      simp only [ih, List.filter_cons, hp, Bool.false_eq_true, if_false]
theorem compL_all {g : DG} {c : DT} {e : DE} {ρ : DEnv} (f : D → D) (l : List D) (h : ∀ d ∈ l, ∃ ρ', g d ρ = .ok ρ' ∧ c ρ' = .ok true ∧ e ρ' = .ok (f d)) : compL g c e ρ l = .ok (l.map f) := by
  have := compL_ok (g := g) (c := c) (e := e) (ρ := ρ) (fun _ => true) f l fun d hd => by
    obtain ⟨ρ', a, b, c⟩ := h d hd
    exact ⟨ρ', a, b, fun _ => c⟩
  rwa [List.filter_eq_self.mpr (fun _ _ => rfl)] at this
theorem deq_str {a b : Str} : deq (.str a) (.str b) = (a == b) := rfl
theorem deqL_refl_str : ∀ (l : List Str), deqL (l.map D.str) (l.map D.str) = true
  | [] => rfl
  | s :: l => by
    simp only [List.map_cons, deqL, deqL_refl_str l, Bool.and_true, deq]
    exact beq_self_eq_true s
theorem any_deq_str (s : Str) (l : List Str) : ((l.map D.str).any fun y => deq y (.str s)) = decide (s ∈ l) := by
  induction l with
  | nil => rfl
  | cons a l ih =>
    simp only [List.map_cons, List.any_cons, ih, deq, List.mem_cons, Bool.decide_or]
    congr 1
    by_cases h : s = a
    · subst h; simp
    · have h' : ¬ a = s := fun e => h e.symm
      simp [h, h']
theorem all_flat_str (l : List Str) : (l.map D.str).all flatD = true := by
  induction l with
  | nil => rfl
  | cons a l ih => simp [flatD]
theorem inD_tup_str (s : Str) (l : List Str) : inD (.str s) (.tup (l.map .str)) = some (decide (s ∈ l)) := by
  unfold inD
  simp only [show flatD (.str s) = true from rfl, all_flat_str, Bool.and_self, if_true, any_deq_str]
theorem inD_lst_str (s : Str) (l : List Str) : inD (.str s) (.lst (l.map .str)) = some (decide (s ∈ l)) := by
  unfold inD
  simp only [show flatD (.str s) = true from rfl, all_flat_str, Bool.and_self, if_true, any_deq_str]
theorem atD_nat {α : Type} {l : List α} {n : Nat} : atD l (Int.ofNat n) = l[n]? := by
  unfold atD
  rw [if_pos (show (0 : Int) ≤ Int.ofNat n from Int.natCast_nonneg n)]
  rfl
theorem atD_pos {α : Type} {l : List α} {i : Int} (h : 0 ≤ i) : atD l i = l[i.toNat]? := by
  unfold atD
  rw [if_pos h]
theorem cutD_from {α : Type} (l : List α) (i : Int) (h : 0 ≤ i) : cutD l (some i) none = l.drop i.toNat := by
  unfold cutD sIxD
  have h' : ¬ i < 0 := by omega
  simp only [h', if_false]
  by_cases k : i.toNat ≤ l.length
  · rw [Nat.min_eq_left k, List.take_of_length_le (by simp)]
  · rw [Nat.min_eq_right (by omega), List.drop_of_length_le (Nat.le_refl _), List.drop_of_length_le (by omega)]; simp
theorem cutD_to {α : Type} (l : List α) (i : Int) (h : 0 ≤ i) : cutD l none (some i) = l.take i.toNat := by
  unfold cutD sIxD
  have h' : ¬ i < 0 := by omega
  simp only [h', if_false, List.drop_zero, Nat.sub_zero]
  by_cases k : i.toNat ≤ l.length
  · rw [Nat.min_eq_left k]
  · rw [Nat.min_eq_right (by omega), List.take_of_length_le (Nat.le_refl _), List.take_of_length_le (by omega)]
theorem rangeD_get {n : Int} {i : Nat} {d : D} (h : (rangeD n)[i]? = some d) : d = .int i ∧ i < n.toNat := by
  unfold rangeD at h
  rw [List.getElem?_map] at h
  obtain ⟨j, e, rfl⟩ := Option.map_eq_some_iff.mp h
  have hi : i < n.toNat := by
    have := (List.getElem?_eq_some_iff.mp e).1
    rwa [List.length_range] at this
  rw [List.getElem?_range hi] at e
  cases e
  exact ⟨rfl, hi⟩
theorem rangeD_len {n : Int} : (rangeD n).length = n.toNat := by unfold rangeD; rw [List.length_map, List.length_range]
theorem rangeD_mem {n : Int} {d : D} (h : d ∈ rangeD n) : ∃ i : Nat, d = .int i ∧ i < n.toNat := by
  unfold rangeD at h
  obtain ⟨i, hi, rfl⟩ := List.mem_map.mp h
  exact ⟨i, rfl, List.mem_range.mp hi⟩
theorem oMod_ok {i j : Int} (h : 0 < j) : oMod (.int i) (.int j) = some (.int (i % j)) := by
  unfold oMod
  exact if_pos h
theorem oFdiv_ok {i j : Int} (h : 0 < j) (k : j < 1073741824) : oFdiv (.int i) (.int j) = some (.int (i / j)) := by
  unfold oFdiv
  exact if_pos ⟨h, k⟩
theorem oMul_r {i j : Int} (h : w64 j) : oMul (.int i) (.int j) = some (.int (i * j)) := by
  unfold oMul
  exact if_pos (.inr h)
theorem oMul_l {i j : Int} (h : w64 i) : oMul (.int i) (.int j) = some (.int (i * j)) := by
  unfold oMul
  exact if_pos (.inl h)
theorem sSeq_nx {a b : DS} {ρ ρ1 : DEnv} (h : a ρ = .ok (.nx ρ1)) : sSeq a b ρ = b ρ1 := by
  unfold sSeq
  rw [h]
theorem sSeq_rt {a b : DS} {ρ ρ1 : DEnv} {d : D} (h : a ρ = .ok (.rt d ρ1)) : sSeq a b ρ = .ok (.rt d ρ1) := by
  unfold sSeq
  rw [h]
theorem defD_rt {n p : Nat} {b : DS} {ds : List D} {d : D} {ρ : DEnv} (hl : ds.length = p) (h : b (envD n ds) = .ok (.rt d ρ)) : defD n p b ds = .ok d := by
  unfold defD
  rw [if_pos hl, h]
theorem sIf_t {c : DT} {a b : DS} {ρ : DEnv} (h : c ρ = .ok true) : sIf c a b ρ = a ρ := by
  unfold sIf
  rw [h]
  rfl
theorem sIf_f {c : DT} {a b : DS} {ρ : DEnv} (h : c ρ = .ok false) : sIf c a b ρ = b ρ := by
  unfold sIf
  rw [h]
  rfl
theorem sFor_ok {it : DI} {g : DG} {cl : List Nat} {b : DS} {ρ : DEnv} {l : List D} (h : it ρ = .ok l) : sFor it g cl b ρ = forL g cl b l (clrD cl ρ) := by
  unfold sFor
  rw [h]
  rfl
theorem sSet_ok {i : Nat} {e : DE} {ρ ρ1 : DEnv} {d : D} (h : e ρ = .ok d) (k : setV i d ρ = .ok ρ1) : sSet i e ρ = .ok (.nx ρ1) := by
  unfold sSet
  rw [h, R.st_ok, k]
  rfl
theorem sOwn_ok {i : Nat} {e : DE} {ρ ρ1 : DEnv} {d : D} (h : e ρ = .ok d) (k : setO i d ρ = .ok ρ1) : sOwn i e ρ = .ok (.nx ρ1) := by
  unfold sOwn
  rw [h, R.st_ok, k]
  rfl
theorem sRet_ok {e : DE} {ρ : DEnv} {d : D} (h : e ρ = .ok d) : sRet e ρ = .ok (.rt d ρ) := by
  unfold sRet
  rw [h]
  rfl
theorem e1_ok {f : D → Option D} {a : DE} {ρ : DEnv} {x y : D} (h : a ρ = .ok x) (k : f x = some y) : e1 f a ρ = .ok y := by
  unfold e1
  rw [h, R.bind_ok, k]
  rfl
theorem e2_ok {f : D → D → Option D} {a b : DE} {ρ : DEnv} {x y z : D} (h : a ρ = .ok x) (h2 : b ρ = .ok y) (k : f x y = some z) : e2 f a b ρ = .ok z := by
  unfold e2
  rw [h, R.bind_ok, h2, R.bind_ok, k]
  rfl
theorem tVal_ok {a : DE} {ρ : DEnv} {b : Bool} (h : a ρ = .ok (.bl b)) : tVal a ρ = .ok b := by
  unfold tVal
  rw [h]
  rfl
theorem iRange_ok {a : DE} {ρ : DEnv} {n : Int} (h : a ρ = .ok (.int n)) (hn : rngOk n) : iRange a ρ = .ok (rangeD n) := by
  unfold iRange
  rw [h]
  exact rngR_ok hn
theorem iOf_ok {a : DE} {ρ : DEnv} {d : D} {l : List D} (h : a ρ = .ok d) (k : iterD d = some l) : iOf a ρ = .ok l := by
  unfold iOf
  rw [h, R.bind_ok, k]
  rfl
end Tw

set_option maxHeartbeats 2000000
namespace Tw
open PySem
theorem law_cell_ok (ns : List Int) (k : Int) (hk : 0 ≤ k) : ∃ c : Int, d_law_cell [.scr ns, .int k] = .ok (.int c) := by
  by_cases h : k < (ns.length : Int)
  · have hn : k.toNat < ns.length := by omega
    refine ⟨ns[k.toNat], ?_⟩
    simp [d_law_cell, defD, envD, b_law_cell, sSeq, sIf, tVal, e1, e2, eVar, eC, oLen, oLt, h, sRet, oIx, atD_pos hk, List.getElem?_eq_getElem hn, oInt]
  · refine ⟨(ns.sum * 31 + k * 1009 + ns.length) % 1000003, ?_⟩
    simp [d_law_cell, defD, envD, b_law_cell, sSeq, sIf, tVal, e1, e2, eVar, eC, oLen, oLt, h, sRet, sNext, oSum, oMul_r (show w64 31 by decide), oMul_r (show w64 1009 by decide), oAdd, oInt, oMod]
/-- the entries stand below their limits -/
def Below (row ls : List Int) : Prop := ∀ (i : Nat) (x l : Int), row[i]? = some x → ls[i]? = some l → 0 ≤ x ∧ x < l
theorem Below.snoc {row ls : List Int} {x l : Int} (h : Below row ls) (hl : ls[row.length]? = some l) (hx : 0 ≤ x ∧ x < l) : Below (row ++ [x]) ls := fun i y m e1 e2 => by
  by_cases hi : i < row.length
  · rw [List.getElem?_append_left hi] at e1
    exact h i y m e1 e2
  · rw [List.getElem?_append_right (by omega)] at e1
    have hi2 : i - row.length = 0 := by
      rcases Nat.eq_zero_or_pos (i - row.length) with z | z
      · exact z
      · rw [List.getElem?_eq_none (by simp; omega)] at e1
        cases e1
    have : i = row.length := by omega
    subst this
    rw [Nat.sub_self] at e1
    simp at e1
    subst e1
    rw [hl] at e2
    cases e2
    exact hx
theorem map_get {l : List Int} {i : Nat} {d : D} (h : (l.map D.int)[i]? = some d) : ∃ x, l[i]? = some x ∧ d = .int x := by
  rw [List.getElem?_map] at h
  obtain ⟨x, e, rfl⟩ := Option.map_eq_some_iff.mp h
  exact ⟨x, e, rfl⟩
theorem pow1018 : oPow (.int 10) (.int 18) = some (.int 1000000000000000000) := by
  show (if (0 : Int) ≤ 18 ∧ (18 : Int) ≤ 1000000 ∧ (10 : Int).natAbs < 2 ^ 64 then some (D.int (10 ^ (18 : Int).toNat)) else none) = _
  rw [if_pos (by decide)]
  rfl
theorem row_step2 (c s r l : Int) (ls acc : List D) (n : Int) (A B : Int) (l1 : 0 < l) (hlen : acc.length < lineD)
  (hA : (r * 48271 + s * 7919 + n * 69621 + 11) % 2147483647 = A) (hA1 : w64 A) (hB2 : (A * (A / 1024 + 16807) + r + n) % 2147483399 = B)
  (qa : oIx (.lst ls) (.int n) = some (.int l)) :
  (gVar 6 (.int n) [some (.val (.int c)), some (.val (.int s)), some (.val (.lst ls)), some (.own (.lst acc)), some (.val (.int r)), none, none, none]).bind b_law_row_2 =
   .ok (.nx [some (.val (.int c)), some (.val (.int s)), some (.val (.lst ls)), some (.own (.lst (acc ++ [.int (B / 11 % l)]))), some (.val (.int r)), none, some (.val (.int n)), some (.val (.int B))]) := by
  have q1 : ∀ x, oMod (.int x) (.int 2147483647) = some (.int (x % 2147483647)) := fun x => oMod_ok (by decide)
  have q2 : ∀ x, oMod (.int x) (.int 2147483399) = some (.int (x % 2147483399)) := fun x => oMod_ok (by decide)
  have q3 : ∀ x, oFdiv (.int x) (.int 1024) = some (.int (x / 1024)) := fun x => oFdiv_ok (by decide) (by decide)
  have q4 : ∀ x, oFdiv (.int x) (.int 11) = some (.int (x / 11)) := fun x => oFdiv_ok (by decide) (by decide)
  have q5 : ∀ x, oMul (.int x) (.int 48271) = some (.int (x * 48271)) := fun x => oMul_r (by decide)
  have q6 : ∀ x, oMul (.int x) (.int 7919) = some (.int (x * 7919)) := fun x => oMul_r (by decide)
  have q7 : ∀ x, oMul (.int x) (.int 69621) = some (.int (x * 69621)) := fun x => oMul_r (by decide)
  have q8 : ∀ x, oMul (.int A) (.int x) = some (.int (A * x)) := fun x => oMul_l hA1
  have q9 : ∀ x, oMod (.int x) (.int l) = some (.int (x % l)) := fun x => oMod_ok l1
  simp only [gVar, setV, b_law_row_2, sSeq, sApp, sSet, e1, e2, eVar, eC, oInt, oAdd, List.getElem?_cons_succ, List.getElem?_cons_zero, List.set_cons_succ, List.set_cons_zero, R.bind_ok, R.st_ok, R.of_some, q1, q2, q3, q4, q5, q6, q7, hA, q8, hB2, q9, qa, hlen, if_true]
theorem row_step (c s r l : Int) (ls acc : List D) (n : Int) (l1 : 0 < l) (hlen : acc.length < lineD) (qa : oIx (.lst ls) (.int n) = some (.int l)) : ∃ v B : Int, (0 ≤ v ∧ v < l) ∧
  (gVar 6 (.int n) [some (.val (.int c)), some (.val (.int s)), some (.val (.lst ls)), some (.own (.lst acc)), some (.val (.int r)), none, none, none]).bind b_law_row_2 =
   .ok (.nx [some (.val (.int c)), some (.val (.int s)), some (.val (.lst ls)), some (.own (.lst (acc ++ [.int v]))), some (.val (.int r)), none, some (.val (.int n)), some (.val (.int B))]) := by
  have k1 : ∀ x : Int, w64 (x % 2147483647) := fun x => by
    have m1 : 0 ≤ x % 2147483647 ∧ x % 2147483647 < 2147483647 := ⟨Int.emod_nonneg _ (by decide), Int.emod_lt_of_pos _ (by decide)⟩
    exact w64_of (by omega) (by omega)
  exact ⟨_, _, ⟨Int.emod_nonneg _ (Int.ne_of_gt l1), Int.emod_lt_of_pos _ l1⟩, row_step2 c s r l ls acc n _ _ l1 hlen rfl (k1 _) rfl qa⟩
theorem law_row_ok (c s : Int) (ls : List Int) (h : ∀ l ∈ ls, 0 < l ∧ l < 1073741824) (hl : ls.length < 1000000) :
    ∃ row : List Int, d_law_row [.int c, .int s, .lst (ls.map .int)] = .ok (.lst (row.map .int)) ∧ row.length = ls.length ∧ Below row ls := by
  have hb : ∀ {i : Nat} {l : Int}, ls[i]? = some l → 0 < l ∧ l < 1073741824 := fun e => h _ (List.mem_of_getElem? e)
  have ab : ∃ r : Int, oAbs (.int c) = some (.int r) := ⟨_, rfl⟩
  obtain ⟨r, hr⟩ := ab
  by_cases hbig : (1000000000000000000 : Int) ≤ r
  · have loop := forL_ok (g := gVar 5) (cl := [5]) (b := b_law_row_1) (fun i ρ => ∃ (acc : List Int) (q : Int), ρ = [some (.val (.int c)), some (.val (.int s)), some (.val (.lst (ls.map .int))), some (.own (.lst (acc.map .int))), some (.val (.int q)), none, none, none] ∧ acc.length = i ∧ Below acc ls)
      (ls.map .int) [some (.val (.int c)), some (.val (.int s)), some (.val (.lst (ls.map .int))), some (.own (.lst [])), some (.val (.int r)), none, none, none] ⟨[], r, rfl, rfl, fun i x l e => by simp at e⟩ (fun i d ρ hd hI => by
        obtain ⟨acc, q, rfl, rfl, hB⟩ := hI
        obtain ⟨l, e, rfl⟩ := map_get hd
        obtain ⟨l1, l2⟩ := hb e
        have hlen : acc.length < lineD := by
          have := (List.getElem?_eq_some_iff.mp e).1
          show acc.length < 16777216
          omega
        refine ⟨[some (.val (.int c)), some (.val (.int s)), some (.val (.lst (ls.map .int))), some (.own (.lst ((acc ++ [q % l]).map .int))), some (.val (.int (q / l))), some (.val (.int l)), none, none], .inl ?_, acc ++ [q % l], q / l, rfl, by simp, hB.snoc e ⟨Int.emod_nonneg _ (by omega), Int.emod_lt_of_pos _ l1⟩⟩
        simp [gVar, setV, b_law_row_1, sSeq, sApp, sSet, e1, e2, eVar, oMod, oInt, oFdiv, l1, l2, hlen])
    obtain ⟨ρ, e, acc, q, rfl, hlen, hB⟩ := loop
    rw [List.length_map] at hlen
    refine ⟨acc, ?_, hlen, hB⟩
    simp [d_law_row, defD, envD, b_law_row, sSeq, sOwn, setO, eLst, aNil, sSet, setV, e1, e2, eVar, eC, oInt, hr, pow1018, oGe, sIf, tVal, hbig, sFor, iOf, iterD, clrD, clr1]
    rw [e]
    simp [sFrz, frzD, sRet, eVar]
  · obtain ⟨n, hn⟩ : ∃ n : Int, n = ls.length := ⟨_, rfl⟩
    have loop := forL_ok (g := gVar 6) (cl := [6, 7]) (b := b_law_row_2) (fun i ρ => ∃ (acc : List Int), ρ = [some (.val (.int c)), some (.val (.int s)), some (.val (.lst (ls.map .int))), some (.own (.lst (acc.map .int))), some (.val (.int r)), none, none, none] ∧ acc.length = i ∧ Below acc ls)
      (rangeD n) [some (.val (.int c)), some (.val (.int s)), some (.val (.lst (ls.map .int))), some (.own (.lst [])), some (.val (.int r)), none, none, none] ⟨[], rfl, rfl, fun i x l e => by simp at e⟩ (fun i d ρ hd hI => by
        obtain ⟨acc, rfl, rfl, hB⟩ := hI
        obtain ⟨rfl, hi⟩ := rangeD_get hd
        have hi : acc.length < ls.length := by rw [hn, Int.toNat_natCast] at hi; exact hi
        have e : ls[acc.length]? = some ls[acc.length] := List.getElem?_eq_getElem hi
        obtain ⟨l1, l2⟩ := hb e
        have hlen : acc.length < lineD := by
          show acc.length < 16777216
          omega
        have qa : oIx (.lst (ls.map .int)) (.int acc.length) = some (.int ls[acc.length]) := by
          simp only [oIx, atD_pos (Int.natCast_nonneg _), Int.toNat_natCast, List.getElem?_map, e, Option.map_some]
        obtain ⟨v, B, hv, st⟩ := row_step c s r ls[acc.length] (ls.map .int) (acc.map .int) acc.length l1 (by rw [List.length_map]; exact hlen) qa
        refine ⟨_, .inl st, acc ++ [v], ?_, by rw [List.length_append]; rfl, hB.snoc e hv⟩
        rw [List.map_append]
        rfl)
    obtain ⟨ρ, e, acc, rfl, hlen, hB⟩ := loop
    rw [rangeD_len] at hlen
    refine ⟨acc, ?_, by rw [hlen, hn, Int.toNat_natCast], hB⟩
    have hrng : rngOk n := rngOk_of (by omega) (by omega)
    have hlenD : oLen (.lst (ls.map .int)) = some (.int n) := by rw [hn]; simp only [oLen, List.length_map]
    clear hn
    refine defD_rt (ρ := [some (.val (.int c)), some (.val (.int s)), some (.val (.lst (ls.map .int))), some (.val (.lst (acc.map .int))), some (.val (.int r)), none, none, none]) rfl ?_
    unfold b_law_row
    refine Eq.trans (sSeq_nx (sOwn_ok (d := .lst []) rfl rfl)) ?_
    refine Eq.trans (sSeq_nx (sSet_ok (e1_ok (e1_ok (y := .int c) rfl rfl) hr) rfl)) ?_
    refine Eq.trans (sSeq_nx (ρ1 := [some (.val (.int c)), some (.val (.int s)), some (.val (.lst (ls.map .int))), some (.own (.lst [])), some (.val (.int r)), none, none, none]) (Eq.trans (sIf_f (tVal_ok (e2_ok (x := .int r) (y := .int 1000000000000000000) rfl (e2_ok rfl rfl pow1018) (by simp only [oGe, hbig, decide_false])))) rfl)) ?_
    refine Eq.trans (sSeq_nx (Eq.trans (sFor_ok (iRange_ok (e1_ok (x := .lst (ls.map .int)) rfl hlenD) hrng)) e)) ?_
    rfl
end Tw

set_option maxHeartbeats 2000000
namespace Tw
open PySem
/-- a text by its signs -/
def S (l : List Nat) : Str := ⟨l.toArray⟩
theorem S_inj {a b : List Nat} (h : S a = S b) : a = b := by
  have := congrArg (fun s : Str => s.cps.toList) h
  simpa [S] using this
theorem S_app (a b : List Nat) : S a ++ S b = S (a ++ b) := by
  show Str.append _ _ = _
  unfold Str.append S
  simp
theorem S_len (a : List Nat) : (S a).length = a.length := by
  unfold S Str.length
  simp
theorem S_of (s : Str) : s = S s.cps.toList := by
  unfold S
  simp
def LT : List Nat := [65, 66, 67, 68, 69, 70, 71, 72, 73, 74, 75, 76, 77, 78, 79, 80, 81, 82, 83, 84, 85, 86, 87, 88, 89, 90, 97, 98, 99, 100, 101, 102, 103, 104, 105, 106, 107, 108, 109, 110, 111, 112, 113, 114, 115, 116, 117, 118, 119, 120, 121, 122]
def DG10 : List Nat := [48, 49, 50, 51, 52, 53, 54, 55, 56, 57]
abbrev sLT : Str := Str.ofString "ABCDEFGHIJKLMNOPQRSTUVWXYZabcdefghijklmnopqrstuvwxyz"
abbrev sDG : Str := Str.ofString "0123456789"
theorem sLT_eq : sLT = S LT := by decide +kernel
theorem sDG_eq : sDG = S DG10 := by decide +kernel
theorem oAdd_S {a b : List Nat} (h : a.length + b.length ≤ lineD) : oAdd (.str (S a)) (.str (S b)) = some (.str (S (a ++ b))) := by
  show (if (S a).length + (S b).length ≤ lineD then some (D.str (S a ++ S b)) else none) = _
  rw [S_len, S_len, if_pos h, S_app]
theorem oLen_S {a : List Nat} (h : a.length ≤ lineD) : oLen (.str (S a)) = some (.int a.length) := by
  show (if (S a).length ≤ lineD then some (D.int (S a).length) else none) = _
  rw [S_len, if_pos h]
theorem oIx_S {a : List Nat} {i : Int} {c : Nat} (h : a.length ≤ lineD) (hi : 0 ≤ i) (e : a[i.toNat]? = some c) : oIx (.str (S a)) (.int i) = some (.str (S [c])) := by
  show (if (S a).length ≤ lineD then (match atD (S a).cps.toList i with | some c => some (D.str ⟨#[c]⟩) | none => none) else none) = _
  rw [S_len, if_pos h, atD_pos hi, show (S a).cps.toList = a by simp [S], e]
  rfl
/-- the word k of the style: its front, its letter, its back -/
def wordL (f b : List Nat) (z : Bool) (t : Nat) (k : Nat) : List Nat :=
  f ++ [LT.getD ((k * 5 + t) % 52) 0] ++ ((if 52 ≤ k then [121] else []) ++ (b ++ (if z && k % 2 == 1 then [122] else [])))
def isFr (f : List Nat) : Prop := f = [] ∨ f = [113] ∨ f = [90, 120] ∨ f = [110, 55, 119]
def isBk (b : List Nat) : Prop := b = [] ∨ b = [48] ∨ b = [97, 66] ∨ b = [57, 107]
theorem isFr.len {f : List Nat} (h : isFr f) : f.length ≤ 3 := by rcases h with rfl | rfl | rfl | rfl <;> decide
theorem isBk.len {f : List Nat} (h : isBk f) : f.length ≤ 2 := by rcases h with rfl | rfl | rfl | rfl <;> decide
theorem mod4 (s : Int) : s % 4 = 0 ∨ s % 4 = 1 ∨ s % 4 = 2 ∨ s % 4 = 3 := by omega
theorem fr_ok (s : Int) : ∃ f, isFr f ∧ oIx (.lst [.str "", .str "q", .str "Zx", .str "n7w"]) (.int (s % 4)) = some (.str (S f)) := by
  rcases mod4 s with e | e | e | e <;> rw [e]
  · exact ⟨[], .inl rfl, congrArg (fun x => some (D.str x)) (show Str.ofString "" = S [] by decide +kernel)⟩
  · exact ⟨[113], .inr (.inl rfl), congrArg (fun x => some (D.str x)) (show Str.ofString "q" = S [113] by decide +kernel)⟩
  · exact ⟨[90, 120], .inr (.inr (.inl rfl)), congrArg (fun x => some (D.str x)) (show Str.ofString "Zx" = S [90, 120] by decide +kernel)⟩
  · exact ⟨[110, 55, 119], .inr (.inr (.inr rfl)), congrArg (fun x => some (D.str x)) (show Str.ofString "n7w" = S [110, 55, 119] by decide +kernel)⟩
theorem bk_ok (s : Int) : ∃ f, isBk f ∧ oIx (.lst [.str "", .str "0", .str "aB", .str "9k"]) (.int (s % 4)) = some (.str (S f)) := by
  rcases mod4 s with e | e | e | e <;> rw [e]
  · exact ⟨[], .inl rfl, congrArg (fun x => some (D.str x)) (show Str.ofString "" = S [] by decide +kernel)⟩
  · exact ⟨[48], .inr (.inl rfl), congrArg (fun x => some (D.str x)) (show Str.ofString "0" = S [48] by decide +kernel)⟩
  · exact ⟨[97, 66], .inr (.inr (.inl rfl)), congrArg (fun x => some (D.str x)) (show Str.ofString "aB" = S [97, 66] by decide +kernel)⟩
  · exact ⟨[57, 107], .inr (.inr (.inr rfl)), congrArg (fun x => some (D.str x)) (show Str.ofString "9k" = S [57, 107] by decide +kernel)⟩
theorem oEq_int (i j : Int) : oEq (.int i) (.int j) = some (.bl (i == j)) := rfl
theorem small_le {n : Nat} (h : n ≤ 1000) : n ≤ lineD := by
  show n ≤ 16777216
  omega
theorem mulz (i : Int) (h : i % 2 = 0 ∨ i % 2 = 1) : oMul (.str "z") (.int (i % 2)) = some (.str (S (if i % 2 = 1 then [122] else []))) := by
  rcases h with e | e <;> rw [e]
  · exact congrArg (fun x => some (D.str x)) (show repS (Str.ofString "z") 0 = S [] by decide +kernel)
  · exact congrArg (fun x => some (D.str x)) (show repS (Str.ofString "z") 1 = S [122] by decide +kernel)
theorem law_word_ok (s : Int) (hs : 0 ≤ s) : ∃ (f b : List Nat) (z : Bool) (t : Nat), isFr f ∧ isBk b ∧ ∀ k : Nat, k < 1000 → d_law_word [.int s, .int k] = .ok (.str (S (wordL f b z t k))) := by
  obtain ⟨f, hf, ef⟩ := fr_ok s
  obtain ⟨b, hb, eb⟩ := bk_ok (s / 4)
  have lf := hf.len
  have lb := hb.len
  refine ⟨f, b, s / 16 % 2 == 1, (s / 32).toNat, hf, hb, fun k hk => ?_⟩
  have d4 : oFdiv (.int s) (.int 4) = some (.int (s / 4)) := oFdiv_ok (by decide) (by decide)
  have d16 : oFdiv (.int s) (.int 16) = some (.int (s / 16)) := oFdiv_ok (by decide) (by decide)
  have d32 : oFdiv (.int s) (.int 32) = some (.int (s / 32)) := oFdiv_ok (by decide) (by decide)
  have m4 : ∀ x, oMod (.int x) (.int 4) = some (.int (x % 4)) := fun x => oMod_ok (by decide)
  have m2 : ∀ x, oMod (.int x) (.int 2) = some (.int (x % 2)) := fun x => oMod_ok (by decide)
  have m52 : ∀ x, oMod (.int x) (.int 52) = some (.int (x % 52)) := fun x => oMod_ok (by decide)
  have k5 : ∀ x, oMul (.int x) (.int 5) = some (.int (x * 5)) := fun x => oMul_r (by decide)
  have b1l : (b ++ (if (s / 16 % 2 == 1) && k % 2 == 1 then [122] else [])).length ≤ 3 := by
    rw [List.length_append]; split <;> simp <;> omega
  refine defD_rt (ρ := [some (.val (.int s)), some (.val (.int k)), some (.val (.str (S LT))), some (.val (.str (S f))), some (.val (.str (S ((if 52 ≤ k then [121] else []) ++ (b ++ (if (s / 16 % 2 == 1) && k % 2 == 1 then [122] else []))))))]) rfl ?_
  unfold b_law_word
  refine Eq.trans (sSeq_nx (ρ1 := [some (.val (.int s)), some (.val (.int k)), some (.val (.str (S LT))), none, none]) (sSet_ok (d := .str (S LT)) (congrArg (fun x => Tw.R.ok (D.str x)) sLT_eq) rfl)) ?_
  refine Eq.trans (sSeq_nx (sSet_ok (e2_ok (x := .lst [.str "", .str "q", .str "Zx", .str "n7w"]) (y := .int (s % 4)) rfl (e2_ok (x := .int s) rfl rfl (m4 _)) ef) rfl)) ?_
  refine Eq.trans (sSeq_nx (ρ1 := [some (.val (.int s)), some (.val (.int k)), some (.val (.str (S LT))), some (.val (.str (S f))), some (.val (.str (S b)))]) (sSet_ok (e2_ok (x := .lst [.str "", .str "0", .str "aB", .str "9k"]) (y := .int (s / 4 % 4)) rfl (e2_ok (e2_ok (x := .int s) rfl rfl d4) rfl (m4 _)) eb) rfl)) ?_
  refine Eq.trans (sSeq_nx (ρ1 := [some (.val (.int s)), some (.val (.int k)), some (.val (.str (S LT))), some (.val (.str (S f))), some (.val (.str (S (b ++ (if (s / 16 % 2 == 1) && k % 2 == 1 then [122] else [])))))]) ?_) ?_
  · have et : tVal (e2 oEq (e2 oMod (e2 oFdiv (e1 oInt (eVar 0)) (eC (.int 16))) (eC (.int 2))) (eC (.int 1))) [some (.val (.int s)), some (.val (.int k)), some (.val (.str (S LT))), some (.val (.str (S f))), some (.val (.str (S b)))] = .ok (s / 16 % 2 == 1) :=
      tVal_ok (e2_ok (e2_ok (e2_ok (x := .int s) rfl rfl d16) rfl (m2 _)) rfl (oEq_int _ _))
    cases hz : (s / 16 % 2 == 1) with
    | true =>
      rw [hz] at et
      refine Eq.trans (sIf_t et) ?_
      have hk2 : ((k : Int) % 2 = 1) ↔ (k % 2 = 1) := by omega
      have em := mulz (k : Int) (by omega)
      refine sSet_ok (e2_ok (x := .str (S b)) (y := .str (S (if (k : Int) % 2 = 1 then [122] else []))) rfl (e2_ok (x := .str "z") (y := .int ((k : Int) % 2)) rfl (e1_ok (e2_ok (x := .int k) rfl rfl (m2 _)) rfl) em) (oAdd_S (small_le ?_))) ?_
      · split <;> simp <;> omega
      · have ei : (if (k : Int) % 2 = 1 then [122] else ([] : List Nat)) = if (true && k % 2 == 1) then [122] else [] := by
          by_cases h : k % 2 = 1
          · rw [if_pos (hk2.mpr h), if_pos (by simp [h])]
          · rw [if_neg (fun z => h (hk2.mp z)), if_neg (by simp [h])]
        rw [ei]
        rfl
    | false =>
      rw [hz] at et
      refine Eq.trans (sIf_f et) ?_
      simp only [Bool.false_and, Bool.false_eq_true, if_false, List.append_nil]
      rfl
  · generalize hB : (b ++ (if (s / 16 % 2 == 1) && k % 2 == 1 then [122] else [])) = B at b1l ⊢
    have et : tVal (e2 oGe (eVar 1) (eC (.int 52))) [some (.val (.int s)), some (.val (.int k)), some (.val (.str (S LT))), some (.val (.str (S f))), some (.val (.str (S B)))] = .ok (decide ((52 : Int) ≤ (k : Int))) := tVal_ok (e2_ok (x := .int k) rfl rfl rfl)
    refine Eq.trans (sSeq_nx (ρ1 := [some (.val (.int s)), some (.val (.int k)), some (.val (.str (S LT))), some (.val (.str (S f))), some (.val (.str (S ((if 52 ≤ k then [121] else []) ++ B))))]) ?_) ?_
    · by_cases h : 52 ≤ k
      · rw [decide_eq_true (by omega)] at et
        refine Eq.trans (sIf_t et) ?_
        rw [if_pos h]
        exact sSet_ok (e2_ok (x := .str (S [121])) (y := .str (S B)) (congrArg (fun x => Tw.R.ok (D.str x)) (show Str.ofString "y" = S [121] by decide +kernel)) rfl (oAdd_S (small_le (by simp; omega)))) rfl
      · rw [decide_eq_false (by omega)] at et
        refine Eq.trans (sIf_f et) ?_
        rw [if_neg h]
        rfl
    · generalize hC : (if 52 ≤ k then [121] else []) ++ B = C
      have lC : C.length ≤ 4 := by rw [← hC, List.length_append]; split <;> simp <;> omega
      have hix : ((k : Int) * 5 + s / 32) % 52 = (((k * 5 + (s / 32).toNat) % 52 : Nat) : Int) := by
        have : (0 : Int) ≤ s / 32 := Int.ediv_nonneg hs (by decide)
        omega
      have hlt : (k * 5 + (s / 32).toNat) % 52 < 52 := Nat.mod_lt _ (by decide)
      have hg : LT[(k * 5 + (s / 32).toNat) % 52]? = some (LT.getD ((k * 5 + (s / 32).toNat) % 52) 0) := by
        rw [List.getD_eq_getElem?_getD, List.getElem?_eq_getElem (show _ < LT.length from hlt)]
        rfl
      have eix : oIx (.str (S LT)) (.int (((k : Int) * 5 + s / 32) % 52)) = some (.str (S [LT.getD ((k * 5 + (s / 32).toNat) % 52) 0])) := by
        rw [hix]
        exact oIx_S (small_le (by decide)) (Int.natCast_nonneg _) hg
      have ew : wordL f b (s / 16 % 2 == 1) (s / 32).toNat k = f ++ [LT.getD ((k * 5 + (s / 32).toNat) % 52) 0] ++ C := by
        unfold wordL
        rw [hB, hC]
      rw [ew]
      exact sRet_ok (e2_ok (e2_ok (x := .str (S f)) rfl (e2_ok (x := .str (S LT)) rfl (e2_ok (e1_ok (e2_ok (e2_ok (x := .int k) rfl rfl (k5 _)) (e2_ok (x := .int s) rfl rfl d32) rfl) rfl) rfl (m52 _)) eix) (oAdd_S (small_le (by simp; omega)))) rfl (oAdd_S (small_le (by simp; omega))))
end Tw

set_option maxHeartbeats 2000000
namespace Tw
open PySem
def isL (c : Nat) : Bool := decide (c ∈ LT)
def isLD (c : Nat) : Bool := decide (c ∈ LT) || decide (c ∈ DG10)
def isW : List Nat → Bool
  | [] => false
  | c :: l => decide (l.length < 8) && isL c && (c :: l).all isLD
theorem in_LT (c : Nat) : oNotIn (.str (S [c])) (.str sLT) = some (.bl (!isL c)) := by
  rw [sLT_eq]
  rfl
theorem in_DG (c : Nat) : oNotIn (.str (S [c])) (.str sDG) = some (.bl (!decide (c ∈ DG10))) := by
  rw [sDG_eq]
  rfl
theorem tOr_t {a b : DT} {ρ : DEnv} (h : a ρ = .ok true) : tOrD a b ρ = .ok true := by
  unfold tOrD
  rw [h]
  rfl
theorem tOr_f {a b : DT} {ρ : DEnv} {x : Bool} (h : a ρ = .ok false) (k : b ρ = .ok x) : tOrD a b ρ = .ok x := by
  unfold tOrD
  rw [h]
  exact k
theorem tAnd_t {a b : DT} {ρ : DEnv} {x : Bool} (h : a ρ = .ok true) (k : b ρ = .ok x) : tAndD a b ρ = .ok x := by
  unfold tAndD
  rw [h]
  exact k
theorem tAnd_f {a b : DT} {ρ : DEnv} (h : a ρ = .ok false) : tAndD a b ρ = .ok false := by
  unfold tAndD
  rw [h]
  rfl
theorem tNot_ok {a : DT} {ρ : DEnv} {x : Bool} (h : a ρ = .ok x) : tNotD a ρ = .ok (!x) := by
  unfold tNotD
  rw [h]
  rfl
theorem tTru_bl {a : DE} {ρ : DEnv} {b : Bool} (h : a ρ = .ok (.bl b)) : tTru a ρ = .ok b := by
  unfold tTru
  rw [h]
  rfl
theorem iw_step (w : D) (c : Nat) : (gVar 1 (.str (S [c])) [some (.val w), none]).bind b_Titled_is_word_1 = if isLD c then .ok (.nx [some (.val w), some (.val (.str (S [c])))]) else .ok (.rt (.bl false) [some (.val w), some (.val (.str (S [c])))]) := by
  show b_Titled_is_word_1 [some (.val w), some (.val (.str (S [c])))] = _
  unfold b_Titled_is_word_1
  have t1 : tVal (e2 oNotIn (eVar 1) (eC (.str sLT))) [some (.val w), some (.val (.str (S [c])))] = .ok (!isL c) := tVal_ok (e2_ok (x := .str (S [c])) rfl rfl (in_LT c))
  have t2 : tVal (e2 oNotIn (eVar 1) (eC (.str sDG))) [some (.val w), some (.val (.str (S [c])))] = .ok (!decide (c ∈ DG10)) := tVal_ok (e2_ok (x := .str (S [c])) rfl rfl (in_DG c))
  cases h1 : isL c with
  | true =>
    rw [h1] at t1
    refine Eq.trans (sIf_f (tAnd_f t1)) ?_
    have : isLD c = true := by unfold isLD; rw [show decide (c ∈ LT) = true from h1]; rfl
    rw [if_pos this]
    rfl
  | false =>
    rw [h1] at t1
    cases h2 : decide (c ∈ DG10) with
    | true =>
      rw [h2] at t2
      refine Eq.trans (sIf_f (tAnd_t t1 t2)) ?_
      have : isLD c = true := by unfold isLD; rw [show decide (c ∈ LT) = false from h1, h2]; rfl
      rw [if_pos this]
      rfl
    | false =>
      rw [h2] at t2
      refine Eq.trans (sIf_t (tAnd_t t1 t2)) ?_
      have : isLD c = false := by unfold isLD; rw [show decide (c ∈ LT) = false from h1, h2]; rfl
      rw [this]
      rfl
theorem iw_loop (w : D) : ∀ l : List Nat, (l.all isLD = true → forL (gVar 1) [1] b_Titled_is_word_1 (l.map fun c => .str (S [c])) [some (.val w), none] = .ok (.nx [some (.val w), none])) ∧
    (l.all isLD = false → ∃ ρ, forL (gVar 1) [1] b_Titled_is_word_1 (l.map fun c => .str (S [c])) [some (.val w), none] = .ok (.rt (.bl false) ρ))
  | [] => ⟨fun _ => rfl, fun h => by cases h⟩
  | c :: l => by
    have ih := iw_loop w l
    have st := iw_step w c
    cases hc : isLD c with
    | true =>
      rw [hc, if_pos rfl] at st
      have e : forL (gVar 1) [1] b_Titled_is_word_1 ((c :: l).map fun c => .str (S [c])) [some (.val w), none] = forL (gVar 1) [1] b_Titled_is_word_1 (l.map fun c => .str (S [c])) [some (.val w), none] := by
        simp only [List.map_cons, forL, st]
        rfl
      rw [e, List.all_cons, hc, Bool.true_and]
      exact ih
    | false =>
      rw [hc, if_neg Bool.false_ne_true] at st
      refine ⟨fun h => (by rw [List.all_cons, hc] at h; cases h), fun _ => ⟨[some (.val w), some (.val (.str (S [c])))], ?_⟩⟩
      simp only [List.map_cons, forL, st]
theorem defD_of {n p : Nat} {b : DS} {ds : List D} {d : D} (hl : ds.length = p) (h : ∃ ρ, b (envD n ds) = .ok (.rt d ρ)) : defD n p b ds = .ok d := let ⟨_, h⟩ := h; defD_rt hl h
theorem is_word_ok (l : List Nat) (hl : l.length ≤ 1000) : d_Titled_is_word [.str (S l)] = .ok (.bl (isW l)) := by
  refine defD_of rfl ?_
  show ∃ ρ, b_Titled_is_word [some (.val (.str (S l))), none] = _
  unfold b_Titled_is_word
  have el : e1 oLen (eVar 0) [some (.val (.str (S l))), none] = .ok (.int l.length) := e1_ok (x := .str (S l)) rfl (oLen_S (small_le hl))
  have t1 : tVal (e2 oLt (e1 oLen (eVar 0)) (eC (.int 1))) [some (.val (.str (S l))), none] = .ok (decide ((l.length : Int) < 1)) := tVal_ok (e2_ok el rfl rfl)
  have t2 : tVal (e2 oGt (e1 oLen (eVar 0)) (eC (.int 8))) [some (.val (.str (S l))), none] = .ok (decide ((8 : Int) < l.length)) := tVal_ok (e2_ok el rfl rfl)
  have out : ∀ {c : DT} {q : DS}, c [some (.val (.str (S l))), none] = .ok true → ∃ ρ, sSeq (sIf c (sRet (eC (.bl false))) sNext) q [some (.val (.str (S l))), none] = .ok (.rt (.bl false) ρ) := fun h => ⟨_, sSeq_rt (Eq.trans (sIf_t h) rfl)⟩
  cases l with
  | nil => exact out (tOr_t t1)
  | cons c l =>
    rw [decide_eq_false (by rw [List.length_cons]; omega)] at t1
    have t3 : tVal (e2 oNotIn (e2 oIx (eVar 0) (eC (.int 0))) (eC (.str sLT))) [some (.val (.str (S (c :: l)))), none] = .ok (!isL c) :=
      tVal_ok (e2_ok (e2_ok (x := .str (S (c :: l))) rfl rfl (oIx_S (c := c) (small_le hl) (Int.le_refl 0) rfl)) rfl (in_LT c))
    rw [show isW (c :: l) = (decide (l.length < 8) && isL c && (c :: l).all isLD) from rfl]
    by_cases h8 : l.length < 8
    · rw [decide_eq_false (by rw [List.length_cons]; omega)] at t2
      rw [decide_eq_true h8, Bool.true_and]
      cases hc : isL c with
      | false =>
        rw [hc] at t3
        exact out (tOr_f t1 (tOr_f t2 t3))
      | true =>
        rw [hc] at t3
        rw [Bool.true_and]
        have hn : sIf (tOrD (tVal (e2 oLt (e1 oLen (eVar 0)) (eC (.int 1)))) (tOrD (tVal (e2 oGt (e1 oLen (eVar 0)) (eC (.int 8)))) (tVal (e2 oNotIn (e2 oIx (eVar 0) (eC (.int 0))) (eC (.str sLT)))))) (sRet (eC (.bl false))) sNext [some (.val (.str (S (c :: l)))), none] = .ok (.nx [some (.val (.str (S (c :: l)))), none]) :=
          Eq.trans (sIf_f (tOr_f t1 (tOr_f t2 t3))) rfl
        have hf : sFor (iOf (eVar 0)) (gVar 1) [1] b_Titled_is_word_1 [some (.val (.str (S (c :: l)))), none] = forL (gVar 1) [1] b_Titled_is_word_1 ((c :: l).map fun c => .str (S [c])) [some (.val (.str (S (c :: l)))), none] :=
          sFor_ok (iOf_ok (d := .str (S (c :: l))) rfl (by simp [iterD, S]))
        have lp := iw_loop (.str (S (c :: l))) (c :: l)
        cases ha : (c :: l).all isLD with
        | true => exact ⟨_, Eq.trans (sSeq_nx hn) (Eq.trans (sSeq_nx (Eq.trans hf (lp.1 ha))) rfl)⟩
        | false =>
          obtain ⟨ρ, e⟩ := lp.2 ha
          exact ⟨ρ, Eq.trans (sSeq_nx hn) (sSeq_rt (Eq.trans hf e))⟩
    · rw [decide_eq_true (by rw [List.length_cons]; omega)] at t2
      rw [decide_eq_false h8, Bool.false_and, Bool.false_and]
      exact out (tOr_f t1 (tOr_t t2))
theorem isLD_LT {n : Nat} (h : n < 52) : isL (LT.getD n 0) = true ∧ isLD (LT.getD n 0) = true := by
  have : ∀ i : Fin 52, isL (LT.getD i.1 0) = true ∧ isLD (LT.getD i.1 0) = true := by decide +kernel
  exact this ⟨n, h⟩
theorem LT_inj {n m : Nat} (h : n < 52) (k : m < 52) (e : LT.getD n 0 = LT.getD m 0) : n = m := by
  have : ∀ i j : Fin 52, LT.getD i.1 0 = LT.getD j.1 0 → i = j := by decide +kernel
  exact congrArg Fin.val (this ⟨n, h⟩ ⟨m, k⟩ e)
theorem word_ok {f b : List Nat} {z : Bool} {t k : Nat} (hf : isFr f) (hb : isBk b) : isW (wordL f b z t k) = true ∧ (wordL f b z t k).length ≤ 8 := by
  obtain ⟨h1, h2⟩ := isLD_LT (Nat.mod_lt (k * 5 + t) (show 0 < 52 by decide))
  unfold wordL
  generalize LT.getD ((k * 5 + t) % 52) 0 = c at h1 h2
  have hy : (if 52 ≤ k then [121] else ([] : List Nat)) = [] ∨ (if 52 ≤ k then [121] else ([] : List Nat)) = [121] := by split <;> simp
  have hz : (if z && k % 2 == 1 then [122] else ([] : List Nat)) = [] ∨ (if z && k % 2 == 1 then [122] else ([] : List Nat)) = [122] := by split <;> simp
  have d1 : isLD 113 = true := by decide +kernel
  have d2 : isLD 90 = true := by decide +kernel
  have d3 : isLD 120 = true := by decide +kernel
  have d4 : isLD 110 = true := by decide +kernel
  have d5 : isLD 55 = true := by decide +kernel
  have d6 : isLD 119 = true := by decide +kernel
  have d7 : isLD 48 = true := by decide +kernel
  have d8 : isLD 97 = true := by decide +kernel
  have d9 : isLD 66 = true := by decide +kernel
  have da : isLD 57 = true := by decide +kernel
  have db : isLD 107 = true := by decide +kernel
  have dc : isLD 121 = true := by decide +kernel
  have dd : isLD 122 = true := by decide +kernel
  have g1 : isL 113 = true := by decide +kernel
  have g2 : isL 90 = true := by decide +kernel
  have g3 : isL 110 = true := by decide +kernel
  rcases hy with e | e <;> rw [e] <;> rcases hz with e | e <;> rw [e] <;> rcases hf with rfl | rfl | rfl | rfl <;> rcases hb with rfl | rfl | rfl | rfl <;>
    simp [isW, h1, h2, d1, d2, d3, d4, d5, d6, d7, d8, d9, da, db, dc, dd, g1, g2, g3]
theorem word_inj {f b : List Nat} {z : Bool} {t j k : Nat} (hj : j < 62) (hk : k < 62) (e : wordL f b z t j = wordL f b z t k) : j = k := by
  unfold wordL at e
  rw [List.append_assoc, List.append_assoc] at e
  have e := List.append_cancel_left e
  simp only [List.singleton_append, List.cons.injEq] at e
  obtain ⟨e1, e2⟩ := e
  have em := LT_inj (Nat.mod_lt _ (by decide)) (Nat.mod_lt _ (by decide)) e1
  have h52 : j % 52 = k % 52 := by omega
  have hp : j % 2 = k % 2 := by omega
  have el := congrArg List.length e2
  rw [hp] at el
  simp only [List.length_append] at el
  by_cases a : 52 ≤ j <;> by_cases c : 52 ≤ k <;> simp [a, c] at el <;> omega
end Tw

set_option maxHeartbeats 2000000
namespace Tw
open PySem
def stL (ws : List (List Nat)) : List D := ws.map fun w => .str (S w)
theorem stL_eq (ws : List (List Nat)) : stL ws = (ws.map S).map D.str := by unfold stL; rw [List.map_map]; rfl
theorem mem_S {w : List Nat} {ws : List (List Nat)} : S w ∈ ws.map S ↔ w ∈ ws := by
  refine ⟨fun h => ?_, fun h => List.mem_map_of_mem h⟩
  obtain ⟨v, hv, e⟩ := List.mem_map.mp h
  rwa [← S_inj e]
theorem inD_lst (w : List Nat) (ws : List (List Nat)) : inD (.str (S w)) (.lst (stL ws)) = some (decide (w ∈ ws)) := by
  rw [stL_eq, inD_lst_str]
  congr 1
  exact decide_eq_decide.mpr mem_S
theorem inD_tup (w : List Nat) (ws : List (List Nat)) : inD (.str (S w)) (.tup (stL ws)) = some (decide (w ∈ ws)) := by
  rw [stL_eq, inD_tup_str]
  congr 1
  exact decide_eq_decide.mpr mem_S
theorem oIn_lst (w : List Nat) (ws : List (List Nat)) : oIn (.str (S w)) (.lst (stL ws)) = some (.bl (decide (w ∈ ws))) := by
  unfold oIn
  rw [inD_lst]
  rfl
theorem oIn_tup (w : List Nat) (ws : List (List Nat)) : oIn (.str (S w)) (.tup (stL ws)) = some (.bl (decide (w ∈ ws))) := by
  unfold oIn
  rw [inD_tup]
  rfl
theorem stL_len (ws : List (List Nat)) : (stL ws).length = ws.length := by unfold stL; rw [List.length_map]
theorem stL_app (a b : List (List Nat)) : stL (a ++ b) = stL a ++ stL b := by unfold stL; rw [List.map_append]
theorem stL_get {ws : List (List Nat)} {i : Nat} {d : D} (h : (stL ws)[i]? = some d) : ∃ w, ws[i]? = some w ∧ d = .str (S w) := by
  unfold stL at h
  rw [List.getElem?_map] at h
  obtain ⟨w, e, rfl⟩ := Option.map_eq_some_iff.mp h
  exact ⟨w, e, rfl⟩
/-- a list or a tuple of these -/
def Lt (d : D) (l : List D) : Prop := d = .lst l ∨ d = .tup l
theorem Lt.list {d : D} {l : List D} (h : Lt d l) : oList d = some (.lst l) := by rcases h with rfl | rfl <;> rfl
theorem Lt.tuple {d : D} {l : List D} (h : Lt d l) : oTuple d = some (.tup l) := by rcases h with rfl | rfl <;> rfl
theorem sApp_ok {i : Nat} {e : DE} {ρ ρ1 : DEnv} {l : List D} {d : D} (h : ρ[i]? = some (some (.own (.lst l)))) (k : e ρ = .ok d) (hl : l.length < lineD) (r : ρ.set i (some (.own (.lst (l ++ [d])))) = ρ1) : sApp i e ρ = .ok (.nx ρ1) := by
  unfold sApp
  rw [h]
  simp only [k, R.st_ok, if_pos hl, r]
theorem sFld_ok {i : Nat} {f : Str} {e : DE} {ρ ρ1 : DEnv} {d s s' : D} (h : ρ[i]? = some (some (.slf s))) (k : e ρ = .ok d) (p : putF f d s = some s') (r : ρ.set i (some (.slf s')) = ρ1) : sFld i f e ρ = .ok (.nx ρ1) := by
  unfold sFld
  rw [k]
  simp only [R.st_ok, h, p, r]
theorem eCall_ok {f : List D → R D} {as : DA} {ρ : DEnv} {ds : List D} {d : D} (h : as ρ = .ok ds) (k : f ds = .ok d) : eCall f as ρ = .ok d := by
  unfold eCall
  rw [h]
  exact k
theorem aCons_ok {a : DE} {as : DA} {ρ : DEnv} {d : D} {ds : List D} (h : a ρ = .ok d) (k : as ρ = .ok ds) : aCons a as ρ = .ok (d :: ds) := by
  unfold aCons
  rw [h, R.bind_ok, k]
  rfl
theorem decl_step (s nd sd : D) (w : List Nat) (gs : List (List Nat)) (hw : isW w = true) (hl : w.length ≤ 1000) (hg : gs.length < 1000) (hn : w ∉ gs) :
    (gVar 4 (.str (S w)) [some (.slf s), some (.val nd), some (.val sd), some (.own (.lst (stL gs))), none]).bind b_Declaring_init_1 = .ok (.nx [some (.slf s), some (.val nd), some (.val sd), some (.own (.lst (stL (gs ++ [w])))), some (.val (.str (S w)))]) := by
  show b_Declaring_init_1 [some (.slf s), some (.val nd), some (.val sd), some (.own (.lst (stL gs))), some (.val (.str (S w)))] = _
  unfold b_Declaring_init_1
  have c1 := is_word_ok w hl
  rw [hw] at c1
  refine Eq.trans (sSeq_nx (Eq.trans (sIf_f (tNot_ok (tTru_bl (eCall_ok (aCons_ok (d := .str (S w)) rfl rfl) c1)))) rfl)) ?_
  have c2 := oIn_lst w gs
  rw [decide_eq_false hn] at c2
  refine Eq.trans (sSeq_nx (Eq.trans (sIf_f (tVal_ok (e2_ok (x := .str (S w)) (y := .lst (stL gs)) rfl rfl c2))) rfl)) ?_
  exact sApp_ok (l := stL gs) (d := .str (S w)) rfl rfl (by rw [stL_len]; exact Nat.lt_of_lt_of_le hg (small_le (Nat.le_refl _))) (by rw [stL_app]; rfl)
theorem decl_ok {s s1 s2 nd sd : D} {ns ss : List (List Nat)} (hn : Lt nd (stL ns)) (hs : Lt sd (stL ss)) (hw : ∀ w ∈ ns ++ ss, isW w = true ∧ w.length ≤ 1000) (nd' : (ns ++ ss).Nodup) (hl : (ns ++ ss).length < 1000)
    (p1 : putF "names" (.tup (stL ns)) s = some s1) (p2 : putF "statics" (.tup (stL ss)) s1 = some s2) :
    ∃ ρ, b_Declaring_init [some (.slf s), some (.val nd), some (.val sd), none, none] = .ok (.nx (some (.slf s2) :: ρ)) := by
  unfold b_Declaring_init
  refine ⟨[some (.val nd), some (.val sd), some (.own (.lst (stL (ns ++ ss)))), none], ?_⟩
  refine Eq.trans (sSeq_nx (sOwn_ok (d := .lst []) rfl rfl)) ?_
  have loop := forL_st (g := gVar 4) (cl := [4]) (b := b_Declaring_init_1) (fun i => [some (.slf s), some (.val nd), some (.val sd), some (.own (.lst (stL ((ns ++ ss).take i)))), none]) (stL (ns ++ ss)) (fun i d hd => by
    obtain ⟨w, e, rfl⟩ := stL_get hd
    obtain ⟨hi, e'⟩ := List.getElem?_eq_some_iff.mp e
    have hm := List.mem_of_getElem? e
    have ht : w ∉ (ns ++ ss).take i := fun z => by
      obtain ⟨j, hj, ej⟩ := List.mem_iff_getElem.mp z
      rw [List.length_take] at hj
      rw [List.getElem_take] at ej
      have := (List.getElem_inj (h₀ := by omega) (h₁ := hi) nd').mp (ej.trans e'.symm)
      omega
    refine ⟨_, .inl (decl_step s nd sd w _ (hw w hm).1 (hw w hm).2 (by rw [List.length_take]; omega) ht), ?_⟩
    have : (ns ++ ss).take (i + 1) = (ns ++ ss).take i ++ [w] := by rw [List.take_succ, e]; rfl
    show [some (Slot.slf s), some (.val nd), some (.val sd), some (.own (.lst (stL ((ns ++ ss).take i ++ [w])))), none] = _
    rw [this])
  rw [stL_len, List.take_length] at loop
  have ea : oAdd (.lst (stL ns)) (.lst (stL ss)) = some (.lst (stL (ns ++ ss))) := by
    show (if (stL ns).length + (stL ss).length ≤ lineD then some (D.lst (stL ns ++ stL ss)) else none) = _
    rw [List.length_append] at hl
    rw [stL_len, stL_len, if_pos (small_le (by omega)), stL_app]
  refine Eq.trans (sSeq_nx (Eq.trans (sFor_ok (iOf_ok (d := .lst (stL (ns ++ ss))) (e2_ok (e1_ok (x := nd) rfl hn.list) (e1_ok (x := sd) rfl hs.list) ea) rfl)) loop)) ?_
  refine Eq.trans (sSeq_nx (sFld_ok (s := s) rfl (e1_ok (x := nd) rfl hn.tuple) p1 rfl)) ?_
  exact sFld_ok (s := s1) rfl (e1_ok (x := sd) rfl hs.tuple) p2 rfl
theorem putF_ok {f : Str} {v : D} {c : String} {ks : List Str} {vs : List D} (h : ks.length < 999) (k : f ∈ fldOf c) : putF f v (.obj c ks vs) = some (.obj c (putDk f ks) (putDv f v ks vs)) := if_pos ⟨h, k⟩
theorem initP_nx {n p : Nat} {b : DS} {s : D} {ds : List D} {c : String} {ks : List Str} {l : List D} {ρ : DEnv} (hl : ds.length + 1 = p) (h : b (some (.slf s) :: envD (n - 1) ds) = .ok (.nx (some (.slf (.obj c ks l)) :: ρ))) (hg : noGst l = true) : initP n p b s ds = .ok (.non, .obj c ks l) := by
  unfold initP
  rw [if_pos hl, h]
  exact if_pos hg
theorem putDk_new {f g : Str} (h : f ≠ g) : putDk f [g] = [g, f] := by
  show (if f = g then [g] else g :: putDk f []) = _
  rw [if_neg h]
  rfl
theorem putDv_new {f g : Str} {v u : D} (h : f ≠ g) : putDv f v [g] [u] = [u, v] := by
  show (if f = g then v :: [] else u :: putDv f v [] []) = _
  rw [if_neg h]
  rfl
theorem decl_make {nd sd : D} {ns ss : List (List Nat)} (hn : Lt nd (stL ns)) (hs : Lt sd (stL ss)) (hw : ∀ w ∈ ns ++ ss, isW w = true ∧ w.length ≤ 1000) (nd' : (ns ++ ss).Nodup) (hl : (ns ++ ss).length < 1000) :
    mkD "Declaring" d_Declaring_init [nd, sd] = .ok (.obj "Declaring" ["names", "statics"] [.tup (stL ns), .tup (stL ss)]) := by
  have hf : (Str.ofString "names") ∈ fldOf "Declaring" ∧ (Str.ofString "statics") ∈ fldOf "Declaring" := by decide +kernel
  have hne : (Str.ofString "statics") ≠ Str.ofString "names" := by decide +kernel
  have p1 : putF "names" (.tup (stL ns)) (.obj "Declaring" [] []) = some (.obj "Declaring" ["names"] [.tup (stL ns)]) := putF_ok (by decide) hf.1
  have p2 : putF "statics" (.tup (stL ss)) (.obj "Declaring" ["names"] [.tup (stL ns)]) = some (.obj "Declaring" ["names", "statics"] [.tup (stL ns), .tup (stL ss)]) :=
    (putF_ok (by decide) hf.2).trans (by rw [putDk_new hne, putDv_new hne])
  obtain ⟨ρ, e⟩ := decl_ok hn hs hw nd' hl p1 p2
  have : d_Declaring_init (.obj "Declaring" [] []) [nd, sd] = .ok (.non, .obj "Declaring" ["names", "statics"] [.tup (stL ns), .tup (stL ss)]) := initP_nx rfl e rfl
  unfold mkD
  rw [this]
  rfl
theorem declares_ok (c : String) (ns ss : List (List Nat)) (w : List Nat) : d_Declaring_declares [.obj c ["names", "statics"] [.tup (stL ns), .tup (stL ss)], .str (S w)] = .ok (.bl (decide (w ∈ ns) || decide (w ∈ ss))) := by
  have hne : (Str.ofString "statics") ≠ Str.ofString "names" := by decide +kernel
  have f1 : oFld "names" (.obj c ["names", "statics"] [.tup (stL ns), .tup (stL ss)]) = some (.tup (stL ns)) := by
    show (match lookD [Str.ofString "names", Str.ofString "statics"] [.tup (stL ns), .tup (stL ss)] (Str.ofString "names") with | some v => some v | none => none) = _
    unfold lookD
    rw [if_pos rfl]
  have f2 : oFld "statics" (.obj c ["names", "statics"] [.tup (stL ns), .tup (stL ss)]) = some (.tup (stL ss)) := by
    show (match lookD [Str.ofString "names", Str.ofString "statics"] [.tup (stL ns), .tup (stL ss)] (Str.ofString "statics") with | some v => some v | none => none) = _
    unfold lookD
    rw [if_neg hne]
    unfold lookD
    rw [if_pos rfl]
  refine defD_rt (ρ := [some (.val (.obj c ["names", "statics"] [.tup (stL ns), .tup (stL ss)])), some (.val (.str (S w)))]) rfl ?_
  refine sRet_ok ?_
  have a := e2_ok (f := oIn) (a := eVar 1) (b := e1 (oFld "names") (eVar 0)) (ρ := [some (.val (.obj c ["names", "statics"] [.tup (stL ns), .tup (stL ss)])), some (.val (.str (S w)))]) (x := .str (S w)) rfl (e1_ok rfl f1) (oIn_tup w ns)
  have b := e2_ok (f := oIn) (a := eVar 1) (b := e1 (oFld "statics") (eVar 0)) (ρ := [some (.val (.obj c ["names", "statics"] [.tup (stL ns), .tup (stL ss)])), some (.val (.str (S w)))]) (x := .str (S w)) rfl (e1_ok rfl f2) (oIn_tup w ss)
  unfold eOr
  show (e2 oIn (eVar 1) (e1 (oFld "names") (eVar 0)) [some (.val (.obj c ["names", "statics"] [.tup (stL ns), .tup (stL ss)])), some (.val (.str (S w)))]).bind _ = _
  rw [a, R.bind_ok]
  cases decide (w ∈ ns) with
  | true => rfl
  | false => exact b
theorem is_static_ok (c : String) (ns ss : List (List Nat)) (w : List Nat) : d_Declaring_is_static [.obj c ["names", "statics"] [.tup (stL ns), .tup (stL ss)], .str (S w)] = .ok (.bl (decide (w ∈ ss))) := by
  have hne : (Str.ofString "statics") ≠ Str.ofString "names" := by decide +kernel
  have f2 : oFld "statics" (.obj c ["names", "statics"] [.tup (stL ns), .tup (stL ss)]) = some (.tup (stL ss)) := by
    show (match lookD [Str.ofString "names", Str.ofString "statics"] [.tup (stL ns), .tup (stL ss)] (Str.ofString "statics") with | some v => some v | none => none) = _
    unfold lookD
    rw [if_neg hne]
    unfold lookD
    rw [if_pos rfl]
  refine defD_rt (ρ := [some (.val (.obj c ["names", "statics"] [.tup (stL ns), .tup (stL ss)])), some (.val (.str (S w)))]) rfl ?_
  exact sRet_ok (e2_ok (x := .str (S w)) rfl (e1_ok rfl f2) (oIn_tup w ss))
end Tw

namespace Tw
open PySem
def b_law_1 : DS := sSeq (sSet 10 (eLst (aCons (eMeth ["Declaring"] d_Declaring_declares (eVar 7) (aCons (eVar 9) (aNil))) (aCons (eMeth ["Declaring"] d_Declaring_is_static (eVar 7) (aCons (eVar 9) (aNil))) (aNil))))) (sSeq (sIf (tOrD (tNotD (tTru (e1 (oIsi "bool") (e2 oIx (eVar 10) (eC (.int 0)))))) (tNotD (tTru (e1 (oIsi "bool") (e2 oIx (eVar 10) (eC (.int 1))))))) (sRet (eC (.bl false))) (sNext)) (sIf (tOrD (tVal (e2 oNe (e2 oIx (eVar 10) (eC (.int 0))) (eOr (e2 oIn (eVar 9) (eVar 3)) (e2 oIn (eVar 9) (eVar 4))))) (tVal (e2 oNe (e2 oIx (eVar 10) (eC (.int 1))) (e2 oIn (eVar 9) (eVar 4))))) (sRet (eC (.bl false))) (sNext)))
def b_law_2 : DS := sFor (iOf (eLst (aCons (e2 oIx (eVar 2) (eVar 8)) (aCons (e2 oAdd (e2 oIx (eVar 2) (eVar 8)) (eC (.str "Q"))) (aCons (eC (.str "later")) (aCons (eC (.str "")) (aNil))))))) (gVar 9) [9, 10] b_law_1
def b_law : DS := sSeq (sSet 1 (eCall d_law_row (aCons (eCall d_law_cell (aCons (eVar 0) (aCons (eC (.int 0)) (aNil)))) (aCons (eC (.int 1)) (aCons (e2 oAdd (eLst (aCons (eC (.int 1664)) (aCons (eC (.int 2)) (aCons (eC (.int 12)) (aNil))))) (e2 oMul (eLst (aCons (eC (.int 3)) (aNil))) (eC (.int 12)))) (aNil)))))) (sSeq (sSet 2 (eComp (iRange (eC (.int 12))) [8] (gVar 8) (tYesD) (eCall d_law_word (aCons (e2 oIx (eVar 1) (eC (.int 0))) (aCons (eVar 8) (aNil)))))) (sSeq (sSet 2 (e2 oAdd (eSl (eVar 2) (xSome (e2 oIx (eVar 1) (eC (.int 2)))) (xNone)) (eSl (eVar 2) (xNone) (xSome (e2 oIx (eVar 1) (eC (.int 2))))))) (sSeq (sSet 3 (eComp (iRange (eC (.int 12))) [8] (gVar 8) (tVal (e2 oEq (e2 oIx (eVar 1) (e2 oAdd (eC (.int 3)) (eVar 8))) (eC (.int 1)))) (e2 oIx (eVar 2) (eVar 8)))) (sSeq (sSet 4 (eComp (iRange (eC (.int 12))) [8] (gVar 8) (tVal (e2 oEq (e2 oIx (eVar 1) (e2 oAdd (eC (.int 3)) (eVar 8))) (eC (.int 2)))) (e2 oIx (eVar 2) (eVar 8)))) (sSeq (sOwn 5 (e1 oList (eVar 3))) (sSeq (sOwn 6 (e1 oList (eVar 4))) (sSeq (sIf (tVal (e2 oEq (e2 oIx (eVar 1) (eC (.int 1))) (eC (.int 1)))) (sSet 7 (eCall (mkD "Declaring" d_Declaring_init) (aCons (e1 oTuple (eLook 5)) (aCons (e1 oTuple (eLook 6)) (aNil))))) (sSet 7 (eLend [5, 6] (eCall (mkD "Declaring" d_Declaring_init) (aCons (eVar 5) (aCons (eVar 6) (aNil))))))) (sSeq (sApp 5 (eC (.str "later"))) (sSeq (sClear 6) (sSeq (sIf (tOrD (tNotD (tTru (e1 (oIsi "tuple") (e1 (oFld "names") (eVar 7))))) (tNotD (tTru (e1 (oIsi "tuple") (e1 (oFld "statics") (eVar 7)))))) (sRet (eC (.bl false))) (sNext)) (sSeq (sIf (tOrD (tVal (e2 oNe (e1 (oFld "names") (eVar 7)) (e1 oTuple (eVar 3)))) (tVal (e2 oNe (e1 (oFld "statics") (eVar 7)) (e1 oTuple (eVar 4))))) (sRet (eC (.bl false))) (sNext)) (sSeq (sFor (iRange (eC (.int 12))) (gVar 8) [8, 9, 10] b_law_2) (sRet (eC (.bl true)))))))))))))))
def d_law : List D → R D := defD 11 1 b_law
end Tw

set_option maxHeartbeats 2000000
namespace Tw
open PySem PySem.Spec L2
open PyProof.Rows hiding St
def top (i : Nat) : Stmt := PySem.Challenge.pw_twicebased_k03_declaring.main.body.getD i (.Pass ⟨0, 0, 0, 0⟩)
structure Fx (K : PySem.W.Frag) (mg : Str → Option Value) : Prop where
  n_abs : mg "abs" = none
  n_bool : mg "bool" = none
  n_int : mg "int" = none
  n_isinstance : mg "isinstance" = none
  n_len : mg "len" = none
  n_list : mg "list" = none
  n_range : mg "range" = none
  n_sum : mg "sum" = none
  n_tuple : mg "tuple" = none
  c_DIGITS : ∃ t, mg "DIGITS" = some (.str "0123456789" t)
  c_LETTERS : ∃ t, mg "LETTERS" = some (.str "ABCDEFGHIJKLMNOPQRSTUVWXYZabcdefghijklmnopqrstuvwxyz" t)
  c_LONGEST : ∃ t, mg "LONGEST" = some (.int 8 t)
  g_Declaring : mg "Declaring" = some (.ref (gAd "Declaring" K))
  g_Titled : mg "Titled" = some (.ref (gAd "Titled" K))
  g__law_cell : mg "_law_cell" = some (.ref (gAd "_law_cell" K))
  g__law_row : mg "_law_row" = some (.ref (gAd "_law_row" K))
  g__law_word : mg "_law_word" = some (.ref (gAd "_law_word" K))
  g_law : mg "law" = some (.ref (gAd "law" K))
  cl_Declaring : Cls K (cmOf K "Declaring")
  na_Declaring_names : NoAttr K (cmOf K "Declaring") "names"
  na_Declaring_statics : NoAttr K (cmOf K "Declaring") "statics"
  mk_Declaring : Mk K (cmOf K "Declaring") (mAd "Declaring" "__init__" K)
  me_Declaring_declares : Meth K (cmOf K "Declaring") "declares" (mAd "Declaring" "declares" K)
  me_Declaring_is_static : Meth K (cmOf K "Declaring") "is_static" (mAd "Declaring" "is_static" K)
  sm_Titled_is_word : CFn K (cmOf K "Titled") "is_word" (sAd "Titled" "is_word" K)
  d_law_row : ∃ fd, FunD K "_law_row" "_law_row" (defArgs (top 12)) (defBody (top 12)) (defScope (top 12)) [] [] (gAd "_law_row" K) fd
  d_law_cell : ∃ fd, FunD K "_law_cell" "_law_cell" (defArgs (top 11)) (defBody (top 11)) (defScope (top 11)) [] [] (gAd "_law_cell" K) fd
  d_law_word : ∃ fd, FunD K "_law_word" "_law_word" (defArgs (top 13)) (defBody (top 13)) (defScope (top 13)) [] [] (gAd "_law_word" K) fd
  d_Titled_is_word : ∃ fd, FunD K "is_word" "Titled.is_word" (defArgs (L2.inClass (top 8) 1)) (defBody (L2.inClass (top 8) 1)) (defScope (L2.inClass (top 8) 1)) [] [] (sAd "Titled" "is_word" K) fd
  d_Declaring_init : ∃ fd, FunD K "__init__" "Declaring.__init__" (defArgs (L2.inClass (top 9) 0)) (defBody (L2.inClass (top 9) 0)) (defScope (L2.inClass (top 9) 0)) [] [] (mAd "Declaring" "__init__" K) fd
  d_Declaring_declares : ∃ fd, FunD K "declares" "Declaring.declares" (defArgs (L2.inClass (top 9) 1)) (defBody (L2.inClass (top 9) 1)) (defScope (L2.inClass (top 9) 1)) [] [] (mAd "Declaring" "declares" K) fd
  d_Declaring_is_static : ∃ fd, FunD K "is_static" "Declaring.is_static" (defArgs (L2.inClass (top 9) 2)) (defBody (L2.inClass (top 9) 2)) (defScope (L2.inClass (top 9) 2)) [] [] (mAd "Declaring" "is_static" K) fd
  d_law : ∃ fd, FunD K "law" "law" (defArgs (top 14)) (defBody (top 14)) (defScope (top 14)) [] [] (gAd "law" K) fd
def gg {K : PySem.W.Frag} {mg : Str → Option Value} (F : Fx K mg) : Gc where
  K := K
  cm := cmOf K
  has := fun c => c = "Declaring"
  cls := by
    intro c h
    rcases h with rfl
    · exact F.cl_Declaring
  noat := by
    intro c f h k
    rcases h with rfl
    · have k : f = "names" ∨ f = "statics" := by simpa [fldOf] using k
      rcases k with rfl | rfl
      · exact F.na_Declaring_names
      · exact F.na_Declaring_statics
theorem sc_law_row : FnScope ["_law_cell_here", "_law_seed", "_law_limits", "_law_row_here", "_law_rest", "_law_limit", "_law_k", "_law_mixed"] ["_law_cell_here", "_law_seed", "_law_limits"] (defScope (top 12)) := ⟨rfl, rfl, rfl, by decide +kernel, rfl, by decide +kernel, by decide +kernel⟩
theorem f_law_row {P : Program} {w : World} {K : PySem.W.Frag} {mg : Str → Option Value} {base : Heap} (F : Fx K mg) : PySem.W.keepIn K (.ref (gAd "_law_row" K)) = true ∧ FnOk P w K mg base (L2.CX P w) 1 (gAd "_law_row" K) F.d_law_row.choose ["_law_cell_here", "_law_seed", "_law_limits"] (dsp (gg F) d_law_row) ∧ Binds K F.d_law_row.choose ["_law_cell_here", "_law_seed", "_law_limits"] [] := by
  have FD := F.d_law_row.choose_spec
  refine ⟨FD.kp, fn_dsp FD rfl sc_law_row (Nat.le_of_ble_eq_true rfl) (k := 0) (b := b_law_row) (N := ["_law_cell_here", "_law_seed", "_law_limits", "_law_row_here", "_law_rest", "_law_limit", "_law_k", "_law_mixed"]) (fun cdv A outer s H E Ze => ?_), FD.bindsN fun _ _ _ _ _ _ us hl => match us, hl with | [_, _, _], _ => rfl⟩
  exact dss_cons (ds_own (i := 3) (by exact rfl) (by exact Nat.le_of_ble_eq_true rfl) (by exact Or.inl rfl) (pf_lst (da_nil))) (dss_cons (ds_set (i := 4) (by exact rfl) (by exact Nat.le_of_ble_eq_true rfl) (by exact Or.inl rfl) (pd_abs (by exact rfl) F.n_abs ((pd_int' (by exact rfl) F.n_int ((pd_var 0).w)).w))) (dss_cons (ds_if (pt_ge ((pd_var 4).w) ((pd_pow ((pd_int).w) ((pd_int).w)).w)) (dss_cons (ds_for (di_of (pd_var 2)) (dg_name (i := 5) (by exact rfl) (by exact Nat.le_of_ble_eq_true rfl) (by exact Or.inl rfl)) (dss_cons (ds_append (i := 3) (by exact rfl) (pd_mod ((pd_int' (by exact rfl) F.n_int ((pd_var 4).w)).w) ((pd_var 5).w))) (dss_one (ds_set (i := 4) (by exact rfl) (by exact Nat.le_of_ble_eq_true rfl) (by exact Or.inl rfl) (pd_fdiv ((pd_int' (by exact rfl) F.n_int ((pd_var 4).w)).w) ((pd_var 5).w)))))) (dss_one (ds_frz [3] (ds_ret (pd_var 3))))) (dss_nil)) (dss_cons (ds_for (di_range (by exact rfl) F.n_range (pd_len (by exact rfl) F.n_len ((pd_var 2).w))) (dg_name (i := 6) (by exact rfl) (by exact Nat.le_of_ble_eq_true rfl) (by exact Or.inl rfl)) (dss_cons (ds_set (i := 7) (by exact rfl) (by exact Nat.le_of_ble_eq_true rfl) (by exact Or.inl rfl) (pd_mod ((pd_int' (by exact rfl) F.n_int ((pd_add ((pd_add ((pd_add ((pd_mul ((pd_var 4).w) ((pd_int).w)).w) ((pd_mul ((pd_var 1).w) ((pd_int).w)).w)).w) ((pd_mul ((pd_var 6).w) ((pd_int).w)).w)).w) ((pd_int).w)).w)).w) ((pd_int).w))) (dss_cons (ds_set (i := 7) (by exact rfl) (by exact Nat.le_of_ble_eq_true rfl) (by exact Or.inl rfl) (pd_mod ((pd_int' (by exact rfl) F.n_int ((pd_add ((pd_add ((pd_mul ((pd_var 7).w) ((pd_add ((pd_fdiv ((pd_var 7).w) ((pd_int).w)).w) ((pd_int).w)).w)).w) ((pd_var 4).w)).w) ((pd_var 6).w)).w)).w) ((pd_int).w))) (dss_one (ds_append (i := 3) (by exact rfl) (pd_mod ((pd_int' (by exact rfl) F.n_int ((pd_fdiv ((pd_var 7).w) ((pd_int).w)).w)).w) ((pd_ix ((pd_var 2).w) ((pd_var 6).w)).w))))))) (dss_one (ds_frz [3] (ds_ret (pd_var 3)))))))
theorem k_law_row {P : Program} {w : World} {K : PySem.W.Frag} {mg : Str → Option Value} {base : Heap} (F : Fx K mg) : Fk P w K mg base (gg F) "_law_row" d_law_row 1 := ⟨_, _, _, (f_law_row (P := P) (w := w) (base := base) F).2.1, F.g__law_row, (f_law_row (P := P) (w := w) (base := base) F).1, (f_law_row (P := P) (w := w) (base := base) F).2.2⟩
theorem sc_law_cell : FnScope ["_law_script", "_law_k"] ["_law_script", "_law_k"] (defScope (top 11)) := ⟨rfl, rfl, rfl, by decide +kernel, rfl, by decide +kernel, by decide +kernel⟩
theorem f_law_cell {P : Program} {w : World} {K : PySem.W.Frag} {mg : Str → Option Value} {base : Heap} (F : Fx K mg) : PySem.W.keepIn K (.ref (gAd "_law_cell" K)) = true ∧ FnOk P w K mg base (L2.CX P w) 1 (gAd "_law_cell" K) F.d_law_cell.choose ["_law_script", "_law_k"] (dsp (gg F) d_law_cell) ∧ Binds K F.d_law_cell.choose ["_law_script", "_law_k"] [] := by
  have FD := F.d_law_cell.choose_spec
  refine ⟨FD.kp, fn_dsp FD rfl sc_law_cell (Nat.le_of_ble_eq_true rfl) (k := 0) (b := b_law_cell) (N := ["_law_script", "_law_k"]) (fun cdv A outer s H E Ze => ?_), FD.bindsN fun _ _ _ _ _ _ us hl => match us, hl with | [_, _], _ => rfl⟩
  exact dss_cons (ds_if (pt_lt ((pd_var 1).w) ((pd_len (by exact rfl) F.n_len ((pd_var 0).w)).w)) (dss_one (ds_ret (pd_int' (by exact rfl) F.n_int ((pd_ix ((pd_var 0).w) ((pd_var 1).w)).w)))) (dss_nil)) (dss_one (ds_ret (pd_mod ((pd_int' (by exact rfl) F.n_int ((pd_add ((pd_add ((pd_mul ((pd_sum (by exact rfl) F.n_sum ((pd_var 0).w)).w) ((pd_int).w)).w) ((pd_mul ((pd_var 1).w) ((pd_int).w)).w)).w) ((pd_len (by exact rfl) F.n_len ((pd_var 0).w)).w)).w)).w) ((pd_int).w))))
theorem k_law_cell {P : Program} {w : World} {K : PySem.W.Frag} {mg : Str → Option Value} {base : Heap} (F : Fx K mg) : Fk P w K mg base (gg F) "_law_cell" d_law_cell 1 := ⟨_, _, _, (f_law_cell (P := P) (w := w) (base := base) F).2.1, F.g__law_cell, (f_law_cell (P := P) (w := w) (base := base) F).1, (f_law_cell (P := P) (w := w) (base := base) F).2.2⟩
theorem sc_law_word : FnScope ["_law_style", "_law_k", "_law_letters", "_law_front", "_law_back"] ["_law_style", "_law_k"] (defScope (top 13)) := ⟨rfl, rfl, rfl, by decide +kernel, rfl, by decide +kernel, by decide +kernel⟩
theorem f_law_word {P : Program} {w : World} {K : PySem.W.Frag} {mg : Str → Option Value} {base : Heap} (F : Fx K mg) : PySem.W.keepIn K (.ref (gAd "_law_word" K)) = true ∧ FnOk P w K mg base (L2.CX P w) 1 (gAd "_law_word" K) F.d_law_word.choose ["_law_style", "_law_k"] (dsp (gg F) d_law_word) ∧ Binds K F.d_law_word.choose ["_law_style", "_law_k"] [] := by
  have FD := F.d_law_word.choose_spec
  refine ⟨FD.kp, fn_dsp FD rfl sc_law_word (Nat.le_of_ble_eq_true rfl) (k := 0) (b := b_law_word) (N := ["_law_style", "_law_k", "_law_letters", "_law_front", "_law_back"]) (fun cdv A outer s H E Ze => ?_), FD.bindsN fun _ _ _ _ _ _ us hl => match us, hl with | [_, _], _ => rfl⟩
  exact dss_cons (ds_set (i := 2) (by exact rfl) (by exact Nat.le_of_ble_eq_true rfl) (by exact Or.inl rfl) (pd_str)) (dss_cons (ds_set (i := 3) (by exact rfl) (by exact Nat.le_of_ble_eq_true rfl) (by exact Or.inl rfl) (pd_ix ((pd_lst (da_cons (pd_str) (da_cons (pd_str) (da_cons (pd_str) (da_cons (pd_str) (da_nil)))))).w) ((pd_mod ((pd_int' (by exact rfl) F.n_int ((pd_var 0).w)).w) ((pd_int).w)).w))) (dss_cons (ds_set (i := 4) (by exact rfl) (by exact Nat.le_of_ble_eq_true rfl) (by exact Or.inl rfl) (pd_ix ((pd_lst (da_cons (pd_str) (da_cons (pd_str) (da_cons (pd_str) (da_cons (pd_str) (da_nil)))))).w) ((pd_mod ((pd_fdiv ((pd_int' (by exact rfl) F.n_int ((pd_var 0).w)).w) ((pd_int).w)).w) ((pd_int).w)).w))) (dss_cons (ds_if (pt_eq ((pd_mod ((pd_fdiv ((pd_int' (by exact rfl) F.n_int ((pd_var 0).w)).w) ((pd_int).w)).w) ((pd_int).w)).w) ((pd_int).w)) (dss_one (ds_set (i := 4) (by exact rfl) (by exact Nat.le_of_ble_eq_true rfl) (by exact Or.inl rfl) (pd_add ((pd_var 4).w) ((pd_mul ((pd_str).w) ((pd_int' (by exact rfl) F.n_int ((pd_mod ((pd_int' (by exact rfl) F.n_int ((pd_var 1).w)).w) ((pd_int).w)).w)).w)).w)))) (dss_nil)) (dss_cons (ds_if (pt_ge ((pd_var 1).w) ((pd_int).w)) (dss_one (ds_set (i := 4) (by exact rfl) (by exact Nat.le_of_ble_eq_true rfl) (by exact Or.inl rfl) (pd_add ((pd_str).w) ((pd_var 4).w)))) (dss_nil)) (dss_one (ds_ret (pd_add ((pd_add ((pd_var 3).w) ((pd_ix ((pd_var 2).w) ((pd_mod ((pd_int' (by exact rfl) F.n_int ((pd_add ((pd_mul ((pd_var 1).w) ((pd_int).w)).w) ((pd_fdiv ((pd_int' (by exact rfl) F.n_int ((pd_var 0).w)).w) ((pd_int).w)).w)).w)).w) ((pd_int).w)).w)).w)).w) ((pd_var 4).w))))))))
theorem k_law_word {P : Program} {w : World} {K : PySem.W.Frag} {mg : Str → Option Value} {base : Heap} (F : Fx K mg) : Fk P w K mg base (gg F) "_law_word" d_law_word 1 := ⟨_, _, _, (f_law_word (P := P) (w := w) (base := base) F).2.1, F.g__law_word, (f_law_word (P := P) (w := w) (base := base) F).1, (f_law_word (P := P) (w := w) (base := base) F).2.2⟩
theorem sc_Titled_is_word : FnScope ["text", "char"] ["text"] (defScope (L2.inClass (top 8) 1)) := ⟨rfl, rfl, rfl, by decide +kernel, rfl, by decide +kernel, by decide +kernel⟩
theorem f_Titled_is_word {P : Program} {w : World} {K : PySem.W.Frag} {mg : Str → Option Value} {base : Heap} (F : Fx K mg) : PySem.W.keepIn K (.ref (sAd "Titled" "is_word" K)) = true ∧ FnOk P w K mg base (L2.CX P w) 1 (sAd "Titled" "is_word" K) F.d_Titled_is_word.choose ["text"] (dsp (gg F) d_Titled_is_word) ∧ Binds K F.d_Titled_is_word.choose ["text"] [] := by
  have FD := F.d_Titled_is_word.choose_spec
  refine ⟨FD.kp, fn_dsp FD rfl sc_Titled_is_word (Nat.le_of_ble_eq_true rfl) (k := 0) (b := b_Titled_is_word) (N := ["text", "char"]) (fun cdv A outer s H E Ze => ?_), FD.bindsN fun _ _ _ _ _ _ us hl => match us, hl with | [_], _ => rfl⟩
  exact dss_cons (ds_if (pt_bo (pw_or' (pt_lt ((pd_len (by exact rfl) F.n_len ((pd_var 0).w)).w) ((pd_int).w)) (pw_or' (pt_gt ((pd_len (by exact rfl) F.n_len ((pd_var 0).w)).w) ((pd_gint (by exact rfl) F.c_LONGEST).w)) (pw_or1' (pt_notin ((pd_ix ((pd_var 0).w) ((pd_int).w)).w) ((pd_gstr (by exact rfl) F.c_LETTERS).w)))))) (dss_one (ds_ret (pd_bl))) (dss_nil)) (dss_cons (ds_for (di_of (pd_var 0)) (dg_name (i := 1) (by exact rfl) (by exact Nat.le_of_ble_eq_true rfl) (by exact Or.inl rfl)) (dss_one (ds_if (pt_bo (pw_and' (pt_notin ((pd_var 1).w) ((pd_gstr (by exact rfl) F.c_LETTERS).w)) (pw_and1' (pt_notin ((pd_var 1).w) ((pd_gstr (by exact rfl) F.c_DIGITS).w))))) (dss_one (ds_ret (pd_bl))) (dss_nil)))) (dss_one (ds_ret (pd_bl))))
theorem sc_Declaring_init : FnScope ["self", "names", "statics", "given", "word"] ["self", "names", "statics"] (defScope (L2.inClass (top 9) 0)) := ⟨rfl, rfl, rfl, by decide +kernel, rfl, by decide +kernel, by decide +kernel⟩
theorem f_Declaring_init {P : Program} {w : World} {K : PySem.W.Frag} {mg : Str → Option Value} {base : Heap} (F : Fx K mg) : PySem.W.keepIn K (.ref (mAd "Declaring" "__init__" K)) = true ∧ FnOk P w K mg base (L2.CX P w) 2 (mAd "Declaring" "__init__" K) F.d_Declaring_init.choose ["self", "names", "statics"] (dspM (gg F) d_Declaring_init) ∧ Binds K F.d_Declaring_init.choose ["self", "names", "statics"] [] := by
  have FD := F.d_Declaring_init.choose_spec
  refine ⟨FD.kp, fn_init FD rfl sc_Declaring_init (Nat.le_of_ble_eq_true rfl) (k := 1) (b := b_Declaring_init) (N := ["self", "names", "statics", "given", "word"]) (fun cdv A outer s H E Ze sa => ?_), FD.bindsN fun _ _ _ _ _ _ us hl => match us, hl with | [_, _, _], _ => rfl⟩
  exact dss_cons (ds_own (i := 3) (by exact rfl) (by exact Nat.le_of_ble_eq_true rfl) (by exact Or.inl rfl) (pf_lst (da_nil))) (dss_cons (ds_for (di_of (pd_add ((pd_list (by exact rfl) F.n_list ((pd_var 1).w)).w) ((pd_list (by exact rfl) F.n_list ((pd_var 2).w)).w))) (dg_name (i := 4) (by exact rfl) (by exact Nat.le_of_ble_eq_true rfl) (by exact Or.inl rfl)) (dss_cons (ds_if (pt_not' (pt_tru ((pd_cfn (by exact rfl) F.g_Titled F.sm_Titled_is_word (f_Titled_is_word (P := P) (w := w) (base := base) F).2.1 (f_Titled_is_word (P := P) (w := w) (base := base) F).2.2 (by exact Nat.le_of_ble_eq_true rfl) (da_cons (pd_var 4) (da_nil))).w))) (dss_one (ds_never)) (dss_nil)) (dss_cons (ds_if (pt_in ((pd_var 4).w) (pd_look 3)) (dss_one (ds_never)) (dss_nil)) (dss_one (ds_append (i := 3) (by exact rfl) (pd_var 4)))))) (dss_cons (ds_fld (i := 0) (by exact rfl) (pd_tuple (by exact rfl) F.n_tuple ((pd_var 1).w))) (dss_one (ds_fld (i := 0) (by exact rfl) (pd_tuple (by exact rfl) F.n_tuple ((pd_var 2).w))))))
theorem c_Declaring_init {P : Program} {w : World} {K : PySem.W.Frag} {mg : Str → Option Value} {base : Heap} (F : Fx K mg) : Ck P w K mg base (gg F) "Declaring" "Declaring" d_Declaring_init 2 := ⟨_, _, _, (f_Declaring_init (P := P) (w := w) (base := base) F).2.1, F.mk_Declaring, F.g_Declaring, (f_Declaring_init (P := P) (w := w) (base := base) F).2.2, rfl⟩
theorem sc_Declaring_declares : FnScope ["self", "name"] ["self", "name"] (defScope (L2.inClass (top 9) 1)) := ⟨rfl, rfl, rfl, by decide +kernel, rfl, by decide +kernel, by decide +kernel⟩
theorem f_Declaring_declares {P : Program} {w : World} {K : PySem.W.Frag} {mg : Str → Option Value} {base : Heap} (F : Fx K mg) : PySem.W.keepIn K (.ref (mAd "Declaring" "declares" K)) = true ∧ FnOk P w K mg base (L2.CX P w) 1 (mAd "Declaring" "declares" K) F.d_Declaring_declares.choose ["self", "name"] (dsp (gg F) d_Declaring_declares) ∧ Binds K F.d_Declaring_declares.choose ["self", "name"] [] := by
  have FD := F.d_Declaring_declares.choose_spec
  refine ⟨FD.kp, fn_dsp FD rfl sc_Declaring_declares (Nat.le_of_ble_eq_true rfl) (k := 0) (b := b_Declaring_declares) (N := ["self", "name"]) (fun cdv A outer s H E Ze => ?_), FD.bindsN fun _ _ _ _ _ _ us hl => match us, hl with | [_, _], _ => rfl⟩
  exact dss_one (ds_ret (pd_or (pd_in ((pd_var 1).w) ((pd_fld ((pd_var 0).w)).w)) (pd_one (pd_in ((pd_var 1).w) ((pd_fld ((pd_var 0).w)).w)))))
theorem m_Declaring_declares {P : Program} {w : World} {K : PySem.W.Frag} {mg : Str → Option Value} {base : Heap} (F : Fx K mg) : Mt P w K mg base (gg F) "Declaring" "declares" d_Declaring_declares 1 := ⟨_, _, _, (f_Declaring_declares (P := P) (w := w) (base := base) F).2.1, F.me_Declaring_declares, (f_Declaring_declares (P := P) (w := w) (base := base) F).2.2, by decide, F.cl_Declaring⟩
theorem sc_Declaring_is_static : FnScope ["self", "name"] ["self", "name"] (defScope (L2.inClass (top 9) 2)) := ⟨rfl, rfl, rfl, by decide +kernel, rfl, by decide +kernel, by decide +kernel⟩
theorem f_Declaring_is_static {P : Program} {w : World} {K : PySem.W.Frag} {mg : Str → Option Value} {base : Heap} (F : Fx K mg) : PySem.W.keepIn K (.ref (mAd "Declaring" "is_static" K)) = true ∧ FnOk P w K mg base (L2.CX P w) 1 (mAd "Declaring" "is_static" K) F.d_Declaring_is_static.choose ["self", "name"] (dsp (gg F) d_Declaring_is_static) ∧ Binds K F.d_Declaring_is_static.choose ["self", "name"] [] := by
  have FD := F.d_Declaring_is_static.choose_spec
  refine ⟨FD.kp, fn_dsp FD rfl sc_Declaring_is_static (Nat.le_of_ble_eq_true rfl) (k := 0) (b := b_Declaring_is_static) (N := ["self", "name"]) (fun cdv A outer s H E Ze => ?_), FD.bindsN fun _ _ _ _ _ _ us hl => match us, hl with | [_, _], _ => rfl⟩
  exact dss_one (ds_ret (pd_in ((pd_var 1).w) ((pd_fld ((pd_var 0).w)).w)))
theorem m_Declaring_is_static {P : Program} {w : World} {K : PySem.W.Frag} {mg : Str → Option Value} {base : Heap} (F : Fx K mg) : Mt P w K mg base (gg F) "Declaring" "is_static" d_Declaring_is_static 1 := ⟨_, _, _, (f_Declaring_is_static (P := P) (w := w) (base := base) F).2.1, F.me_Declaring_is_static, (f_Declaring_is_static (P := P) (w := w) (base := base) F).2.2, by decide, F.cl_Declaring⟩
theorem sc_law : FnScope ["_law_script", "_law_draws", "_law_words", "_law_plain", "_law_fixed", "_law_first", "_law_second", "_law_thing", "_law_k", "_law_part", "_law_both"] ["_law_script"] (defScope (top 14)) := ⟨rfl, rfl, rfl, by decide +kernel, rfl, by decide +kernel, by decide +kernel⟩
theorem f_law {P : Program} {w : World} {K : PySem.W.Frag} {mg : Str → Option Value} {base : Heap} (F : Fx K mg) : PySem.W.keepIn K (.ref (gAd "law" K)) = true ∧ FnOk P w K mg base (L2.CX P w) 4 (gAd "law" K) F.d_law.choose ["_law_script"] (dsp (gg F) d_law) ∧ Binds K F.d_law.choose ["_law_script"] [] := by
  have FD := F.d_law.choose_spec
  refine ⟨FD.kp, fn_dsp FD rfl sc_law (Nat.le_of_ble_eq_true rfl) (k := 3) (b := b_law) (N := ["_law_script", "_law_draws", "_law_words", "_law_plain", "_law_fixed", "_law_first", "_law_second", "_law_thing", "_law_k", "_law_part", "_law_both"]) (fun cdv A outer s H E Ze => ?_), FD.bindsN fun _ _ _ _ _ _ us hl => match us, hl with | [_], _ => rfl⟩
  exact dss_cons (ds_set (i := 1) (by exact rfl) (by exact Nat.le_of_ble_eq_true rfl) (by exact Or.inr rfl) (pd_call (k_law_row (P := P) (w := w) (base := base) F) (by exact Nat.le_of_ble_eq_true rfl) (by exact rfl) (da_cons (pd_call (k_law_cell (P := P) (w := w) (base := base) F) (by exact Nat.le_of_ble_eq_true rfl) (by exact rfl) (da_cons (pd_var 0) (da_cons (pd_int) (da_nil)))) (da_cons (pd_int) (da_cons (pd_add ((pd_lst (da_cons (pd_int) (da_cons (pd_int) (da_cons (pd_int) (da_nil))))).w) ((pd_mul ((pd_lst (da_cons (pd_int) (da_nil))).w) ((pd_int).w)).w)) (da_nil)))))) (dss_cons (ds_set (i := 2) (by exact rfl) (by exact Nat.le_of_ble_eq_true rfl) (by exact Or.inr rfl) (pd_comp (own := [("_law_k", 8)]) (is := [8]) (PDI.w (di_range (by exact rfl) F.n_range (pd_int))) (blkOk_by (by show blkC ["_law_script", "_law_draws", "_law_words", "_law_plain", "_law_fixed", "_law_first", "_law_second", "_law_thing", "_law_k", "_law_part", "_law_both"] (defScope (top 14)) _ _ = true; decide +kernel)) (by decide) (fun _ _ _ _ _ _ => dg_name (i := 8) (by exact rfl) (by exact Nat.le_of_ble_eq_true rfl) (by exact Or.inl rfl)) (fun _ _ _ _ _ _ => dts_nil) (fun _ _ _ _ _ _ => pd_call (k_law_word (P := P) (w := w) (base := base) F) (by exact Nat.le_of_ble_eq_true rfl) (by exact rfl) (da_cons (pd_ix ((pd_var 1).w) ((pd_int).w)) (da_cons (pd_var 8) (da_nil)))))) (dss_cons (ds_set (i := 2) (by exact rfl) (by exact Nat.le_of_ble_eq_true rfl) (by exact Or.inr rfl) (pd_add ((pd_slice ((pd_var 2).w) (px_some ((pd_ix ((pd_var 1).w) ((pd_int).w)).w)) (px_none)).w) ((pd_slice ((pd_var 2).w) (px_none) (px_some ((pd_ix ((pd_var 1).w) ((pd_int).w)).w))).w))) (dss_cons (ds_comp (i := 3) (by exact rfl) (by exact Nat.le_of_ble_eq_true rfl) (by exact rfl) (by exact sw_true rfl rfl rfl (by decide +kernel)) (own := [("_law_k", 8)]) (is := [8]) (PDI.w (di_range (by exact rfl) F.n_range (pd_int))) (blkOk_by (by show blkC ["_law_script", "_law_draws", "_law_words", "_law_plain", "_law_fixed", "_law_first", "_law_second", "_law_thing", "_law_k", "_law_part", "_law_both"] (defScope (top 14)) _ _ = true; decide +kernel)) (by decide) (fun _ _ _ _ _ _ => dg_name (i := 8) (by exact rfl) (by exact Nat.le_of_ble_eq_true rfl) (by exact Or.inl rfl)) (fun _ _ _ _ _ _ => dts_one (pt_eq ((pd_ix ((pd_var 1).w) ((pd_add ((pd_int).w) ((pd_var 8).w)).w)).w) ((pd_int).w))) (fun _ _ _ _ _ _ => pd_ix ((pd_var 2).w) ((pd_var 8).w))) (dss_cons (ds_comp (i := 4) (by exact rfl) (by exact Nat.le_of_ble_eq_true rfl) (by exact rfl) (by exact sw_true rfl rfl rfl (by decide +kernel)) (own := [("_law_k", 8)]) (is := [8]) (PDI.w (di_range (by exact rfl) F.n_range (pd_int))) (blkOk_by (by show blkC ["_law_script", "_law_draws", "_law_words", "_law_plain", "_law_fixed", "_law_first", "_law_second", "_law_thing", "_law_k", "_law_part", "_law_both"] (defScope (top 14)) _ _ = true; decide +kernel)) (by decide) (fun _ _ _ _ _ _ => dg_name (i := 8) (by exact rfl) (by exact Nat.le_of_ble_eq_true rfl) (by exact Or.inl rfl)) (fun _ _ _ _ _ _ => dts_one (pt_eq ((pd_ix ((pd_var 1).w) ((pd_add ((pd_int).w) ((pd_var 8).w)).w)).w) ((pd_int).w))) (fun _ _ _ _ _ _ => pd_ix ((pd_var 2).w) ((pd_var 8).w))) (dss_cons (ds_own (i := 5) (by exact rfl) (by exact Nat.le_of_ble_eq_true rfl) (by exact Or.inl rfl) (pf_list (by exact rfl) F.n_list ((pd_var 3).w))) (dss_cons (ds_own (i := 6) (by exact rfl) (by exact Nat.le_of_ble_eq_true rfl) (by exact Or.inl rfl) (pf_list (by exact rfl) F.n_list ((pd_var 4).w))) (dss_cons (ds_if (pt_eq ((pd_ix ((pd_var 1).w) ((pd_int).w)).w) ((pd_int).w)) (dss_one (ds_set (i := 7) (by exact rfl) (by exact Nat.le_of_ble_eq_true rfl) (by exact Or.inl rfl) (pd_make (c_Declaring_init (P := P) (w := w) (base := base) F) (by exact Nat.le_of_ble_eq_true rfl) (by exact rfl) (da_cons (pd_tuple (by exact rfl) F.n_tuple (pd_look 5)) (da_cons (pd_tuple (by exact rfl) F.n_tuple (pd_look 6)) (da_nil)))))) (dss_one (ds_set (i := 7) (by exact rfl) (by exact Nat.le_of_ble_eq_true rfl) (by exact Or.inl rfl) (pd_lend [5, 6] (pd_make (c_Declaring_init (P := P) (w := w) (base := base) F) (by exact Nat.le_of_ble_eq_true rfl) (by exact rfl) (da_cons (pd_var 5) (da_cons (pd_var 6) (da_nil)))))))) (dss_cons (ds_append (i := 5) (by exact rfl) (pd_str)) (dss_cons (ds_clear (i := 6) (by exact rfl)) (dss_cons (ds_if (pt_bo (pw_or' (pt_not' (pt_tru ((pd_isi "tuple" (by exact rfl) F.n_isinstance ((pd_fld ((pd_var 7).w)).w) (by exact rfl) F.n_tuple (by decide +kernel)).w))) (pw_or1' (pt_not' (pt_tru ((pd_isi "tuple" (by exact rfl) F.n_isinstance ((pd_fld ((pd_var 7).w)).w) (by exact rfl) F.n_tuple (by decide +kernel)).w)))))) (dss_one (ds_ret (pd_bl))) (dss_nil)) (dss_cons (ds_if (pt_bo (pw_or' (pt_ne ((pd_fld ((pd_var 7).w)).w) ((pd_tuple (by exact rfl) F.n_tuple ((pd_var 3).w)).w)) (pw_or1' (pt_ne ((pd_fld ((pd_var 7).w)).w) ((pd_tuple (by exact rfl) F.n_tuple ((pd_var 4).w)).w))))) (dss_one (ds_ret (pd_bl))) (dss_nil)) (dss_cons (ds_for (di_range (by exact rfl) F.n_range (pd_int)) (dg_name (i := 8) (by exact rfl) (by exact Nat.le_of_ble_eq_true rfl) (by exact Or.inl rfl)) (dss_one (ds_for (di_of (pd_lst (da_cons (pd_ix ((pd_var 2).w) ((pd_var 8).w)) (da_cons (pd_add ((pd_ix ((pd_var 2).w) ((pd_var 8).w)).w) ((pd_str).w)) (da_cons (pd_str) (da_cons (pd_str) (da_nil))))))) (dg_name (i := 9) (by exact rfl) (by exact Nat.le_of_ble_eq_true rfl) (by exact Or.inl rfl)) (dss_cons (ds_set (i := 10) (by exact rfl) (by exact Nat.le_of_ble_eq_true rfl) (by exact Or.inl rfl) (pd_lst (da_cons (pd_meth (m_Declaring_declares (P := P) (w := w) (base := base) F) (by exact Nat.le_of_ble_eq_true rfl) (pd_var 7) (da_cons (pd_var 9) (da_nil))) (da_cons (pd_meth (m_Declaring_is_static (P := P) (w := w) (base := base) F) (by exact Nat.le_of_ble_eq_true rfl) (pd_var 7) (da_cons (pd_var 9) (da_nil))) (da_nil))))) (dss_cons (ds_if (pt_bo (pw_or' (pt_not' (pt_tru ((pd_isi "bool" (by exact rfl) F.n_isinstance ((pd_ix ((pd_var 10).w) ((pd_int).w)).w) (by exact rfl) F.n_bool (by decide +kernel)).w))) (pw_or1' (pt_not' (pt_tru ((pd_isi "bool" (by exact rfl) F.n_isinstance ((pd_ix ((pd_var 10).w) ((pd_int).w)).w) (by exact rfl) F.n_bool (by decide +kernel)).w)))))) (dss_one (ds_ret (pd_bl))) (dss_nil)) (dss_one (ds_if (pt_bo (pw_or' (pt_ne ((pd_ix ((pd_var 10).w) ((pd_int).w)).w) ((pd_or (pd_in ((pd_var 9).w) ((pd_var 3).w)) (pd_one (pd_in ((pd_var 9).w) ((pd_var 4).w)))).w)) (pw_or1' (pt_ne ((pd_ix ((pd_var 10).w) ((pd_int).w)).w) ((pd_in ((pd_var 9).w) ((pd_var 4).w)).w))))) (dss_one (ds_ret (pd_bl))) (dss_nil)))))))) (dss_one (ds_ret (pd_bl)))))))))))))))
theorem k_law {P : Program} {w : World} {K : PySem.W.Frag} {mg : Str → Option Value} {base : Heap} (F : Fx K mg) : Fk P w K mg base (gg F) "law" d_law 4 := ⟨_, _, _, (f_law (P := P) (w := w) (base := base) F).2.1, F.g_law, (f_law (P := P) (w := w) (base := base) F).1, (f_law (P := P) (w := w) (base := base) F).2.2⟩
end Tw

set_option maxHeartbeats 0
namespace Tw
open PySem PySem.Spec PyProof.Rows L2
def fb : List FrB := [smB "Titled" "is_word"]
def fn0 : List He5.DefA := [⟨gAd "_law_row", "_law_row", "_law_row", defArgs (top 12), defBody (top 12), defScope (top 12), [], []⟩,
  ⟨gAd "_law_cell", "_law_cell", "_law_cell", defArgs (top 11), defBody (top 11), defScope (top 11), [], []⟩,
  ⟨gAd "_law_word", "_law_word", "_law_word", defArgs (top 13), defBody (top 13), defScope (top 13), [], []⟩,
  ⟨sAd "Titled" "is_word", "is_word", "Titled.is_word", defArgs (L2.inClass (top 8) 1), defBody (L2.inClass (top 8) 1), defScope (L2.inClass (top 8) 1), [], []⟩,
  ⟨mAd "Declaring" "__init__", "__init__", "Declaring.__init__", defArgs (L2.inClass (top 9) 0), defBody (L2.inClass (top 9) 0), defScope (L2.inClass (top 9) 0), [], []⟩,
  ⟨mAd "Declaring" "declares", "declares", "Declaring.declares", defArgs (L2.inClass (top 9) 1), defBody (L2.inClass (top 9) 1), defScope (L2.inClass (top 9) 1), [], []⟩,
  ⟨mAd "Declaring" "is_static", "is_static", "Declaring.is_static", defArgs (L2.inClass (top 9) 2), defBody (L2.inClass (top 9) 2), defScope (L2.inClass (top 9) 2), [], []⟩,
  ⟨gAd "law", "law", "law", defArgs (top 14), defBody (top 14), defScope (top 14), [], []⟩]
def fa0 : List He.Fa := [.free "abs", .free "bool", .free "int", .free "isinstance", .free "len", .free "list", .free "range", .free "sum", .free "tuple", .str "DIGITS" "0123456789", .str "LETTERS" "ABCDEFGHIJKLMNOPQRSTUVWXYZabcdefghijklmnopqrstuvwxyz", .int "LONGEST" 8, .glo "Declaring", .glo "Titled", .glo "_law_cell", .glo "_law_row", .glo "_law_word", .glo "law", .cls "Declaring", .noat "Declaring" "names", .noat "Declaring" "statics", .mkr "Declaring", .meth "Declaring" "declares", .meth "Declaring" "is_static"]
def nm0 : List Str := ["HierarchyError", "InvalidWord", "DuplicateName", "LETTERS", "DIGITS", "LONGEST", "Titled", "Declaring", "_law_cell", "_law_row", "_law_word"]
def fn : List He5.DefA := fn0
def fa : List He.Fa := fa0
def nm : List Str := nm0
theorem fx_of {K : PySem.W.Frag} {hp : Heap} {mg : Str → Option Value} (X : K.In hp) (G : hp.Ns mainGlobals mg) (c : SaysT fb fa fn K) : Fx K mg where
  n_abs := He.free_ok X G (c.fact 0)
  n_bool := He.free_ok X G (c.fact 1)
  n_int := He.free_ok X G (c.fact 2)
  n_isinstance := He.free_ok X G (c.fact 3)
  n_len := He.free_ok X G (c.fact 4)
  n_list := He.free_ok X G (c.fact 5)
  n_range := He.free_ok X G (c.fact 6)
  n_sum := He.free_ok X G (c.fact 7)
  n_tuple := He.free_ok X G (c.fact 8)
  c_DIGITS := He.str_ok X G (c.fact 9)
  c_LETTERS := He.str_ok X G (c.fact 10)
  c_LONGEST := He.int_ok X G (c.fact 11)
  g_Declaring := He.glo_ok X G (c.fact 12)
  g_Titled := He.glo_ok X G (c.fact 13)
  g__law_cell := He.glo_ok X G (c.fact 14)
  g__law_row := He.glo_ok X G (c.fact 15)
  g__law_word := He.glo_ok X G (c.fact 16)
  g_law := He.glo_ok X G (c.fact 17)
  cl_Declaring := He.cls_ok (c.fact 18)
  na_Declaring_names := He.noat_ok (c.fact 19)
  na_Declaring_statics := He.noat_ok (c.fact 20)
  mk_Declaring := He.mkr_ok (c.fact 21)
  me_Declaring_declares := He.meth_ok (c.fact 22)
  me_Declaring_is_static := He.meth_ok (c.fact 23)
  sm_Titled_is_word := smB_ok (c.own 0)
  d_law_row := c.def_ 0
  d_law_cell := c.def_ 1
  d_law_word := c.def_ 2
  d_Titled_is_word := c.def_ 3
  d_Declaring_init := c.def_ 4
  d_Declaring_declares := c.def_ 5
  d_Declaring_is_static := c.def_ 6
  d_law := c.def_ 7
abbrev RW : PySem.W.OpenRow := PySem.W.OpenLaw.row PySem.Challenge.rw_twicebased_k03_declaring
abbrev hkT : PySem.W.Hook := hookT 5 fb fa fn
def obT (s : PySem.W.SharedT) : He.AlD := obsTG 5 fb fa fn (HandSHeadRun.getT s)
theorem obT_eq (s : PySem.W.SharedT) : obT s = hkT.obs s.abs := obsTG_eq (HandSHeadRun.getT_eq s)
theorem runT (w : World) : HandSHeadRun.RunEq RW (PySem.W.view RW.prog [14]) hkT obT 30000 nm w := by
  intro os
  kernel_rfl
theorem law_sp {K : PySem.W.Frag} {mg : Str → Option Value} (F : Fx K mg) (ok : ∀ ns : List Int, ns.length ≤ 63 → d_law [.scr ns] = .ok (.bl true)) (H : Hp) (a : Addr) (ns : List Int) (hl : ns.length ≤ 63) (hS : SqL K H a (ns.map V.int)) : dsp (gg F) d_law [.ref a] H (fun v _ => v = .bl true) fun _ _ _ => False := by
  refine ⟨fun _ => False, [.scr ns], fun a z => z.elim, RepL.one ⟨a, rfl, hS.imp (fun r => ⟨fun z => z, r⟩) id⟩, ?_⟩
  rw [ok ns hl]
  exact fun v H' _ r => r
end Tw

set_option maxHeartbeats 2000000
namespace Tw
open PySem
theorem comp_nat {g : DG} {c : DT} {e : DE} {ρ : DEnv} (p : Nat → Bool) (f : Nat → D) : ∀ l : List Nat, (∀ k ∈ l, ∃ ρ', g (.int k) ρ = .ok ρ' ∧ c ρ' = .ok (p k) ∧ (p k = true → e ρ' = .ok (f k))) →
    compL g c e ρ (l.map fun k => .int (Int.ofNat k)) = .ok ((l.filter p).map f)
  | [], _ => rfl
  | k :: l, h => by
    obtain ⟨ρ', e1, e2, e3⟩ := h k List.mem_cons_self
    have ih := comp_nat p f l fun d hd => h d (List.mem_cons_of_mem _ hd)
    have e1 : g (.int (Int.ofNat k)) ρ = .ok ρ' := e1
    rw [List.map_cons]
    unfold compL
    rw [e1]
    simp only [e2]
    cases hp : p k with
    | true => simp only [e3 hp, ih, List.filter_cons, hp, if_true, List.map_cons]
    | false => simp only [ih, List.filter_cons, hp, Bool.false_eq_true, if_false]
theorem comp_range {g : DG} {c : DT} {e : DE} {ρ : DEnv} (n : Nat) (p : Nat → Bool) (f : Nat → D) (h : ∀ k, k < n → ∃ ρ', g (.int k) ρ = .ok ρ' ∧ c ρ' = .ok (p k) ∧ (p k = true → e ρ' = .ok (f k))) :
    compL g c e ρ (rangeD n) = .ok (((List.range n).filter p).map f) := comp_nat p f (List.range n) fun k hk => h k (List.mem_range.mp hk)
theorem eComp_ok {it : DI} {vs : List Nat} {g : DG} {c : DT} {e : DE} {ρ : DEnv} {l ys : List D} (h : it ρ = .ok l) (hl : l.length ≤ lineD) (ho : okW vs ρ = true) (k : compL g c e (wipD vs ρ) l = .ok ys) : eComp it vs g c e ρ = .ok (.lst ys) := by
  unfold eComp
  rw [h]
  simp only [R.bind_ok]
  rw [if_pos ⟨hl, ho⟩, k]
  rfl
theorem oIx_lst {l : List D} {n : Nat} {d : D} (h : l[n]? = some d) : oIx (.lst l) (.int n) = some d := by
  show (match atD l (n : Int) with | some v => some v | none => none) = _
  rw [atD_pos (Int.natCast_nonneg n), Int.toNat_natCast, h]
theorem row_ix {row : List Int} {n : Nat} {x : Int} (h : row[n]? = some x) : oIx (.lst (row.map .int)) (.int n) = some (.int x) := oIx_lst (by rw [List.getElem?_map, h]; rfl)
theorem oNe_bl (a : Bool) : oNe (.bl a) (.bl a) = some (.bl false) := by cases a <;> rfl
theorem shp_stL : ∀ {l : List (List Nat)} {k : Nat}, (∀ w ∈ l, ∀ c ∈ w, c < 0x110000) → (stL l).all (shp k) = true
  | [], _, _ => rfl
  | w :: l, k, h => by
    show (shp k (.str (S w)) && (stL l).all (shp k)) = true
    rw [shp_stL fun w hw => h w (List.mem_cons_of_mem _ hw), Bool.and_true]
    have : strOkD (S w) = true := by
      unfold strOkD S
      simp only [List.all_toArray, List.all_eq_true, decide_eq_true_eq]
      exact h w List.mem_cons_self
    cases k <;> exact this
theorem deqL_stL (l : List (List Nat)) : deqL (stL l) (stL l) = true := by rw [stL_eq]; exact deqL_refl_str _
theorem oNe_tup {l : List (List Nat)} (h : ∀ w ∈ l, ∀ c ∈ w, c < 0x110000) : oNe (.tup (stL l)) (.tup (stL l)) = some (.bl false) := by
  have hs : shp 60 (.tup (stL l)) = true := shp_stL (k := 59) h
  unfold oNe eqD
  rw [if_neg (show ¬ scalD (.tup (stL l)) (.tup (stL l)) = true from Bool.false_ne_true), hs]
  show (some (deqL (stL l) (stL l))).bind _ = _
  rw [deqL_stL]
  rfl
theorem noLs_stL : ∀ l : List (List Nat), noLs (stL l) = true
  | [] => rfl
  | w :: l => by
    show (noL (.str (S w)) && noLs (stL l)) = true
    rw [noLs_stL l]
    rfl
theorem isW_small {w : List Nat} (h : isW w = true) : ∀ c ∈ w, c < 0x110000 := by
  cases w with
  | nil => intro c hc; cases hc
  | cons a l =>
    intro c hc
    have h3 : (a :: l).all isLD = true := by
      rw [show isW (a :: l) = (decide (l.length < 8) && isL a && (a :: l).all isLD) from rfl] at h
      exact (Bool.and_eq_true_iff.mp h).2
    have h4 := List.all_eq_true.mp h3 c hc
    have hb : (∀ x ∈ LT, x < 0x110000) ∧ ∀ x ∈ DG10, x < 0x110000 := by decide +kernel
    unfold isLD at h4
    rcases Bool.or_eq_true_iff.mp h4 with h5 | h5
    · exact hb.1 c (of_decide_eq_true h5)
    · exact hb.2 c (of_decide_eq_true h5)
theorem eLend_ok {is : List Nat} {e : DE} {ρ : DEnv} {d : D} (h : lendOk is ρ = true) (k : e (is.foldl (fun r i => frzD i r) ρ) = .ok d) (n : noL d = true) : eLend is e ρ = .ok d := by
  unfold eLend
  rw [if_pos h, k]
  exact if_pos n
abbrev dO (pl fx : List (List Nat)) : D := .obj "Declaring" ["names", "statics"] [.tup (stL pl), .tup (stL fx)]
abbrev sL (a0 a1 a2 : D) (pl fx : List (List Nat)) (o5 o6 : D) (k p q : Option Slot) : DEnv := [some (.val a0), some (.val a1), some (.val a2), some (.val (.lst (stL pl))), some (.val (.lst (stL fx))), some (.own o5), some (.own o6), some (.val (dO pl fx)), k, p, q]
theorem in_step (a0 a1 a2 : D) (pl fx : List (List Nat)) (o5 o6 kk : D) (p : List Nat) : ∃ q : D, (gVar 9 (.str (S p)) (sL a0 a1 a2 pl fx o5 o6 (some (.val kk)) none none)).bind b_law_1 = .ok (.nx (sL a0 a1 a2 pl fx o5 o6 (some (.val kk)) (some (.val (.str (S p)))) (some (.val q)))) := by
  refine ⟨.lst [.bl (decide (p ∈ pl) || decide (p ∈ fx)), .bl (decide (p ∈ fx))], ?_⟩
  show b_law_1 (sL a0 a1 a2 pl fx o5 o6 (some (.val kk)) (some (.val (.str (S p)))) none) = _
  unfold b_law_1
  have m1 : eMeth ["Declaring"] d_Declaring_declares (eVar 7) (aCons (eVar 9) aNil) (sL a0 a1 a2 pl fx o5 o6 (some (.val kk)) (some (.val (.str (S p)))) none) = .ok (.bl (decide (p ∈ pl) || decide (p ∈ fx))) := declares_ok "Declaring" pl fx p
  have m2 : eMeth ["Declaring"] d_Declaring_is_static (eVar 7) (aCons (eVar 9) aNil) (sL a0 a1 a2 pl fx o5 o6 (some (.val kk)) (some (.val (.str (S p)))) none) = .ok (.bl (decide (p ∈ fx))) := is_static_ok "Declaring" pl fx p
  generalize hA : (decide (p ∈ pl) || decide (p ∈ fx)) = A at *
  generalize hB : decide (p ∈ fx) = B at *
  have hl : eLst (aCons (eMeth ["Declaring"] d_Declaring_declares (eVar 7) (aCons (eVar 9) aNil)) (aCons (eMeth ["Declaring"] d_Declaring_is_static (eVar 7) (aCons (eVar 9) aNil)) aNil)) (sL a0 a1 a2 pl fx o5 o6 (some (.val kk)) (some (.val (.str (S p)))) none) = .ok (.lst [.bl A, .bl B]) := by
    unfold eLst
    rw [aCons_ok m1 (aCons_ok m2 rfl), R.bind_ok, if_pos (small_le (Nat.le_of_ble_eq_true rfl))]
  refine Eq.trans (sSeq_nx (ρ1 := sL a0 a1 a2 pl fx o5 o6 (some (.val kk)) (some (.val (.str (S p)))) (some (.val (.lst [.bl A, .bl B])))) (sSet_ok hl rfl)) ?_
  refine Eq.trans (sSeq_nx (Eq.trans (sIf_f (tOr_f (tNot_ok (tTru_bl (b := true) rfl)) (tNot_ok (tTru_bl (b := true) rfl)))) rfl)) ?_
  have i1 : e2 oIn (eVar 9) (eVar 3) (sL a0 a1 a2 pl fx o5 o6 (some (.val kk)) (some (.val (.str (S p)))) (some (.val (.lst [.bl A, .bl B])))) = .ok (.bl (decide (p ∈ pl))) := e2_ok (x := .str (S p)) (y := .lst (stL pl)) rfl rfl (oIn_lst p pl)
  have i2 : e2 oIn (eVar 9) (eVar 4) (sL a0 a1 a2 pl fx o5 o6 (some (.val kk)) (some (.val (.str (S p)))) (some (.val (.lst [.bl A, .bl B])))) = .ok (.bl B) := by
    rw [← hB]
    exact e2_ok (x := .str (S p)) (y := .lst (stL fx)) rfl rfl (oIn_lst p fx)
  have io : eOr (e2 oIn (eVar 9) (eVar 3)) (e2 oIn (eVar 9) (eVar 4)) (sL a0 a1 a2 pl fx o5 o6 (some (.val kk)) (some (.val (.str (S p)))) (some (.val (.lst [.bl A, .bl B])))) = .ok (.bl A) := by
    unfold eOr
    rw [i1, R.bind_ok]
    cases h : decide (p ∈ pl) with
    | true =>
      rw [h, Bool.true_or] at hA
      rw [← hA]
    | false =>
      rw [h, Bool.false_or] at hA
      subst hA
      exact i2
  exact Eq.trans (sIf_f (tOr_f (tVal_ok (e2_ok (x := .bl A) rfl io (oNe_bl A))) (tVal_ok (e2_ok (x := .bl B) rfl i2 (oNe_bl B))))) rfl
theorem in_loop (a0 a1 a2 : D) (pl fx : List (List Nat)) (o5 o6 kk : D) : ∀ ps : List (List Nat), forL (gVar 9) [9, 10] b_law_1 (stL ps) (sL a0 a1 a2 pl fx o5 o6 (some (.val kk)) none none) = .ok (.nx (sL a0 a1 a2 pl fx o5 o6 (some (.val kk)) none none))
  | [] => rfl
  | p :: ps => by
    obtain ⟨q, e⟩ := in_step a0 a1 a2 pl fx o5 o6 kk p
    show forL (gVar 9) [9, 10] b_law_1 (.str (S p) :: stL ps) _ = _
    unfold forL
    rw [e]
    exact in_loop a0 a1 a2 pl fx o5 o6 kk ps
theorem out_step (a0 a1 : D) (ws pl fx : List (List Nat)) (o5 o6 : D) (k : Nat) (hk : k < ws.length) (hw : ∀ w ∈ ws, w.length ≤ 100) :
    (gVar 8 (.int k) (sL a0 a1 (.lst (stL ws)) pl fx o5 o6 none none none)).bind b_law_2 = .ok (.nx (sL a0 a1 (.lst (stL ws)) pl fx o5 o6 (some (.val (.int k))) none none)) := by
  show b_law_2 (sL a0 a1 (.lst (stL ws)) pl fx o5 o6 (some (.val (.int k))) none none) = _
  have hg : (stL ws)[k]? = some (.str (S ws[k])) := by unfold stL; rw [List.getElem?_map, List.getElem?_eq_getElem hk]; rfl
  have ix : e2 oIx (eVar 2) (eVar 8) (sL a0 a1 (.lst (stL ws)) pl fx o5 o6 (some (.val (.int k))) none none) = .ok (.str (S ws[k])) := e2_ok (x := .lst (stL ws)) (y := .int k) rfl rfl (oIx_lst hg)
  have l8 := hw _ (List.getElem_mem hk)
  have iq : e2 oAdd (e2 oIx (eVar 2) (eVar 8)) (eC (.str "Q")) (sL a0 a1 (.lst (stL ws)) pl fx o5 o6 (some (.val (.int k))) none none) = .ok (.str (S (ws[k] ++ [81]))) :=
    e2_ok ix (y := .str (S [81])) (congrArg (fun x => R.ok (D.str x)) (show Str.ofString "Q" = S [81] by decide +kernel)) (oAdd_S (small_le (by simp; omega)))
  have hl : eLst (aCons (e2 oIx (eVar 2) (eVar 8)) (aCons (e2 oAdd (e2 oIx (eVar 2) (eVar 8)) (eC (.str "Q"))) (aCons (eC (.str "later")) (aCons (eC (.str "")) aNil)))) (sL a0 a1 (.lst (stL ws)) pl fx o5 o6 (some (.val (.int k))) none none) = .ok (.lst (stL [ws[k], ws[k] ++ [81], [108, 97, 116, 101, 114], []])) := by
    have c1 : eC (.str "later") (sL a0 a1 (.lst (stL ws)) pl fx o5 o6 (some (.val (.int k))) none none) = .ok (.str (S [108, 97, 116, 101, 114])) := congrArg (fun x => R.ok (D.str x)) (show Str.ofString "later" = S [108, 97, 116, 101, 114] by decide +kernel)
    have c2 : eC (.str "") (sL a0 a1 (.lst (stL ws)) pl fx o5 o6 (some (.val (.int k))) none none) = .ok (.str (S [])) := congrArg (fun x => R.ok (D.str x)) (show Str.ofString "" = S [] by decide +kernel)
    unfold eLst
    rw [aCons_ok ix (aCons_ok iq (aCons_ok c1 (aCons_ok c2 rfl))), R.bind_ok, if_pos (small_le (Nat.le_of_ble_eq_true rfl))]
    rfl
  unfold b_law_2
  exact Eq.trans (sFor_ok (iOf_ok hl rfl)) (in_loop a0 a1 (.lst (stL ws)) pl fx o5 o6 (.int k) _)
theorem nodup_map_of {α β : Type} {f : α → β} : ∀ {l : List α}, (∀ a ∈ l, ∀ b ∈ l, f a = f b → a = b) → l.Nodup → (l.map f).Nodup
  | [], _, _ => List.nodup_nil
  | a :: l, h, n => by
    rw [List.map_cons]
    obtain ⟨n1, n2⟩ := List.nodup_cons.mp n
    refine List.nodup_cons.mpr ⟨fun z => ?_, nodup_map_of (fun x hx y hy => h x (List.mem_cons_of_mem _ hx) y (List.mem_cons_of_mem _ hy)) n2⟩
    obtain ⟨b, hb, e⟩ := List.mem_map.mp z
    exact n1 (h b (List.mem_cons_of_mem _ hb) a List.mem_cons_self e ▸ hb)
theorem law_ok (ns : List Int) (hlen : ns.length ≤ 63) : d_law [.scr ns] = .ok (.bl true) := by
  obtain ⟨c, hc⟩ := law_cell_ok ns 0 (by decide)
  obtain ⟨row, hrow, hrl, hB⟩ := law_row_ok c 1 [1664, 2, 12, 3, 3, 3, 3, 3, 3, 3, 3, 3, 3, 3, 3] (by decide) (by decide)
  have hrl : row.length = 15 := hrl
  have g0 : row[0]? = some row[0] := List.getElem?_eq_getElem (by omega)
  have g1 : row[1]? = some row[1] := List.getElem?_eq_getElem (by omega)
  have g2 : row[2]? = some row[2] := List.getElem?_eq_getElem (by omega)
  obtain ⟨s0, s1⟩ := hB 0 _ 1664 g0 rfl
  obtain ⟨q0, q1⟩ := hB 2 _ 12 g2 rfl
  generalize row[0] = s at g0 s0 s1
  generalize row[1] = r1 at g1
  generalize row[2] = q at g2 q0 q1
  obtain ⟨f, b, z, t, hf, hb, hw⟩ := law_word_ok s s0
  -- the words
  generalize hW0 : (List.range 12).map (wordL f b z t) = W0
  have W0len : W0.length = 12 := by rw [← hW0, List.length_map, List.length_range]
  have W0nd : W0.Nodup := by
    rw [← hW0]
    exact nodup_map_of (fun i hi j hj e => word_inj (by have := List.mem_range.mp hi; omega) (by have := List.mem_range.mp hj; omega) e) List.nodup_range
  have W0w : ∀ w ∈ W0, isW w = true ∧ w.length ≤ 8 := fun w hm => by
    rw [← hW0] at hm
    obtain ⟨k, _, rfl⟩ := List.mem_map.mp hm
    exact word_ok hf hb
  generalize hW : W0.drop q.toNat ++ W0.take q.toNat = W
  have Wp : W.Perm W0 := by rw [← hW]; exact List.perm_append_comm.trans (by rw [List.take_append_drop])
  have Wlen : W.length = 12 := by rw [Wp.length_eq, W0len]
  have Wnd : W.Nodup := Wp.nodup_iff.mpr W0nd
  have Ww : ∀ w ∈ W, isW w = true ∧ w.length ≤ 8 := fun w hm => W0w w (Wp.mem_iff.mp hm)
  have wget : ∀ k, k < 12 → W[k]? = some (W.getD k []) := fun k hk => by
    rw [List.getD_eq_getElem?_getD, List.getElem?_eq_getElem (by omega)]
    rfl
  -- the two lists
  have pk : ∀ v : Int, ∀ k : Nat, (decide (row.getD (3 + k) 0 = v)) = (row.getD (3 + k) 0 == v) := fun v k => rfl
  generalize hA : (List.range 12).filter (fun k => row.getD (3 + k) 0 == 1) = A
  generalize hF : (List.range 12).filter (fun k => row.getD (3 + k) 0 == 2) = F
  generalize hPL : A.map (fun k => W.getD k []) = pl
  generalize hFX : F.map (fun k => W.getD k []) = fx
  have Am : ∀ k ∈ A, k < 12 ∧ row.getD (3 + k) 0 = 1 := fun k hk => by
    rw [← hA] at hk
    obtain ⟨h1, h2⟩ := List.mem_filter.mp hk
    exact ⟨List.mem_range.mp h1, by simpa using h2⟩
  have Fm : ∀ k ∈ F, k < 12 ∧ row.getD (3 + k) 0 = 2 := fun k hk => by
    rw [← hF] at hk
    obtain ⟨h1, h2⟩ := List.mem_filter.mp hk
    exact ⟨List.mem_range.mp h1, by simpa using h2⟩
  have AFnd : (A ++ F).Nodup := by
    refine List.nodup_append.mpr ⟨?_, ?_, fun a ha b hb e => ?_⟩
    · rw [← hA]; exact List.nodup_range.filter _
    · rw [← hF]; exact List.nodup_range.filter _
    · subst e
      have h1 := (Am a ha).2
      have h2 := (Fm a hb).2
      rw [h1] at h2
      cases h2
  have AF12 : ∀ k ∈ A ++ F, k < 12 := fun k hk => (List.mem_append.mp hk).elim (fun h => (Am k h).1) fun h => (Fm k h).1
  have pf : pl ++ fx = (A ++ F).map (fun k => W.getD k []) := by rw [List.map_append, hPL, hFX]
  have nd : (pl ++ fx).Nodup := by
    rw [pf]
    refine nodup_map_of (fun i hi j hj e => ?_) AFnd
    have e1 := wget i (AF12 i hi)
    have e2 := wget j (AF12 j hj)
    rw [e, ← e2] at e1
    exact (List.getElem?_inj (by rw [Wlen]; exact AF12 i hi) Wnd).mp e1
  have inW : ∀ w ∈ pl ++ fx, w ∈ W := fun w hm => by
    rw [pf] at hm
    obtain ⟨k, hk, rfl⟩ := List.mem_map.mp hm
    exact List.mem_of_getElem? (wget k (AF12 k hk))
  have pw : ∀ w ∈ pl ++ fx, isW w = true ∧ w.length ≤ 1000 := fun w hm => ⟨(Ww w (inW w hm)).1, Nat.le_trans (Ww w (inW w hm)).2 (by decide)⟩
  have plen : (pl ++ fx).length ≤ 24 := by
    rw [← hPL, ← hFX, List.length_append, List.length_map, List.length_map, ← hA, ← hF]
    have h1 := List.length_filter_le (fun k => row.getD (3 + k) 0 == 1) (List.range 12)
    have h2 := List.length_filter_le (fun k => row.getD (3 + k) 0 == 2) (List.range 12)
    rw [List.length_range] at h1 h2
    omega
  have psm : ∀ w ∈ pl, ∀ c ∈ w, c < 0x110000 := fun w hm => isW_small (pw w (List.mem_append_left _ hm)).1
  have fsm : ∀ w ∈ fx, ∀ c ∈ w, c < 0x110000 := fun w hm => isW_small (pw w (List.mem_append_right _ hm)).1
  -- the text
  refine defD_of rfl ?_
  show ∃ ρ, b_law [some (.val (.scr ns)), none, none, none, none, none, none, none, none, none, none] = _
  unfold b_law
  have lim : e2 oAdd (eLst (aCons (eC (.int 1664)) (aCons (eC (.int 2)) (aCons (eC (.int 12)) aNil)))) (e2 oMul (eLst (aCons (eC (.int 3)) aNil)) (eC (.int 12))) [some (.val (.scr ns)), none, none, none, none, none, none, none, none, none, none] = .ok (.lst ([1664, 2, 12, 3, 3, 3, 3, 3, 3, 3, 3, 3, 3, 3, 3].map .int)) := rfl
  refine ⟨sL (.scr ns) (.lst (row.map .int)) (.lst (stL W)) pl fx (.lst (stL pl ++ [.str "later"])) (.lst []) none none none, ?_⟩
  refine Eq.trans (sSeq_nx (ρ1 := [some (.val (.scr ns)), some (.val (.lst (row.map .int))), none, none, none, none, none, none, none, none, none]) (sSet_ok (eCall_ok (aCons_ok (eCall_ok (aCons_ok (d := .scr ns) rfl (aCons_ok (d := .int 0) rfl rfl)) hc) (aCons_ok (d := .int 1) rfl (aCons_ok lim rfl))) hrow) rfl)) ?_
  have rg : ∀ ρ, iRange (eC (.int 12)) ρ = .ok (rangeD 12) := fun ρ => iRange_ok rfl (rngOk_of (by decide) (by decide))
  have rl : (rangeD 12).length ≤ lineD := by rw [rangeD_len]; exact small_le (by decide)
  have rix : ∀ k : Nat, k < 12 → oIx (.lst (row.map .int)) (.int ((3 : Int) + k)) = some (.int (row.getD (3 + k) 0)) := fun k hk => by
    rw [show (3 : Int) + k = ((3 + k : Nat) : Int) by omega]
    exact row_ix (by rw [List.getD_eq_getElem?_getD, List.getElem?_eq_getElem (by omega)]; rfl)
  refine Eq.trans (sSeq_nx (ρ1 := [some (.val (.scr ns)), some (.val (.lst (row.map .int))), some (.val (.lst (stL W0))), none, none, none, none, none, none, none, none]) (sSet_ok (eComp_ok (rg _) rl rfl (comp_range 12 (fun _ => true) (fun k => .str (S (wordL f b z t k))) fun k hk =>
    ⟨[some (.val (.scr ns)), some (.val (.lst (row.map .int))), none, none, none, none, none, none, some (.val (.int k)), none, none], rfl, rfl, fun _ => eCall_ok (aCons_ok (e2_ok (x := .lst (row.map .int)) (y := .int 0) rfl rfl (row_ix g0)) (aCons_ok (d := .int k) rfl rfl)) (hw k (by omega))⟩)) ?_)) ?_
  · rw [← hW0]
    rfl
  have hq : ((q.toNat : Nat) : Int) = q := Int.toNat_of_nonneg q0
  have qix : oIx (.lst (row.map .int)) (.int 2) = some (.int q) := row_ix g2
  have sl1 : eSl (eVar 2) (xSome (e2 oIx (eVar 1) (eC (.int 2)))) xNone [some (.val (.scr ns)), some (.val (.lst (row.map .int))), some (.val (.lst (stL W0))), none, none, none, none, none, none, none, none] = .ok (.lst (stL (W0.drop q.toNat))) := by
    unfold eSl xSome xNone
    rw [e2_ok (x := .lst (row.map .int)) (y := .int 2) rfl rfl qix]
    show R.ok (D.lst (cutD (stL W0) (some q) none)) = _
    rw [cutD_from _ _ q0]
    unfold stL
    rw [List.map_drop]
  have sl2 : eSl (eVar 2) xNone (xSome (e2 oIx (eVar 1) (eC (.int 2)))) [some (.val (.scr ns)), some (.val (.lst (row.map .int))), some (.val (.lst (stL W0))), none, none, none, none, none, none, none, none] = .ok (.lst (stL (W0.take q.toNat))) := by
    unfold eSl xSome xNone
    rw [e2_ok (x := .lst (row.map .int)) (y := .int 2) rfl rfl qix]
    show R.ok (D.lst (cutD (stL W0) none (some q))) = _
    rw [cutD_to _ _ q0]
    unfold stL
    rw [List.map_take]
  have sa : oAdd (.lst (stL (W0.drop q.toNat))) (.lst (stL (W0.take q.toNat))) = some (.lst (stL W)) := by
    show (if (stL (W0.drop q.toNat)).length + (stL (W0.take q.toNat)).length ≤ lineD then some (D.lst (stL (W0.drop q.toNat) ++ stL (W0.take q.toNat))) else none) = _
    rw [stL_len, stL_len, List.length_drop, List.length_take, if_pos (small_le (by omega)), ← stL_app, hW]
  refine Eq.trans (sSeq_nx (ρ1 := [some (.val (.scr ns)), some (.val (.lst (row.map .int))), some (.val (.lst (stL W))), none, none, none, none, none, none, none, none]) (sSet_ok (e2_ok sl1 sl2 sa) rfl)) ?_
  have cp : ∀ (v : Int) (X Y : Option Slot), compL (gVar 8) (tVal (e2 oEq (e2 oIx (eVar 1) (e2 oAdd (eC (.int 3)) (eVar 8))) (eC (.int v)))) (e2 oIx (eVar 2) (eVar 8)) [some (.val (.scr ns)), some (.val (.lst (row.map .int))), some (.val (.lst (stL W))), X, Y, none, none, none, none, none, none] (rangeD 12) =
      .ok (((List.range 12).filter fun k => row.getD (3 + k) 0 == v).map fun k => .str (S (W.getD k []))) := fun v X Y => comp_range 12 _ _ fun k hk =>
    ⟨[some (.val (.scr ns)), some (.val (.lst (row.map .int))), some (.val (.lst (stL W))), X, Y, none, none, none, some (.val (.int k)), none, none], rfl,
      tVal_ok (e2_ok (e2_ok (x := .lst (row.map .int)) (y := .int ((3 : Int) + k)) rfl (e2_ok (x := .int 3) (y := .int k) rfl rfl rfl) (rix k hk)) rfl (oEq_int _ _)),
      fun _ => e2_ok (x := .lst (stL W)) (y := .int k) rfl rfl (oIx_lst (by unfold stL; rw [List.getElem?_map, wget k hk]; rfl))⟩
  refine Eq.trans (sSeq_nx (ρ1 := [some (.val (.scr ns)), some (.val (.lst (row.map .int))), some (.val (.lst (stL W))), some (.val (.lst (stL pl))), none, none, none, none, none, none, none]) (sSet_ok (eComp_ok (rg _) rl rfl (cp 1 none none)) ?_)) ?_
  · rw [hA, ← hPL]
    unfold stL
    rw [List.map_map]
    rfl
  refine Eq.trans (sSeq_nx (ρ1 := [some (.val (.scr ns)), some (.val (.lst (row.map .int))), some (.val (.lst (stL W))), some (.val (.lst (stL pl))), some (.val (.lst (stL fx))), none, none, none, none, none, none]) (sSet_ok (eComp_ok (rg _) rl rfl (cp 2 (some (.val (.lst (stL pl)))) none)) ?_)) ?_
  · rw [hF, ← hFX]
    unfold stL
    rw [List.map_map]
    rfl
  refine Eq.trans (sSeq_nx (ρ1 := [some (.val (.scr ns)), some (.val (.lst (row.map .int))), some (.val (.lst (stL W))), some (.val (.lst (stL pl))), some (.val (.lst (stL fx))), some (.own (.lst (stL pl))), none, none, none, none, none]) (sOwn_ok (e1_ok (x := .lst (stL pl)) rfl rfl) rfl)) ?_
  refine Eq.trans (sSeq_nx (ρ1 := [some (.val (.scr ns)), some (.val (.lst (row.map .int))), some (.val (.lst (stL W))), some (.val (.lst (stL pl))), some (.val (.lst (stL fx))), some (.own (.lst (stL pl))), some (.own (.lst (stL fx))), none, none, none, none]) (sOwn_ok (e1_ok (x := .lst (stL fx)) rfl rfl) rfl)) ?_
  refine Eq.trans (sSeq_nx (ρ1 := sL (.scr ns) (.lst (row.map .int)) (.lst (stL W)) pl fx (.lst (stL pl)) (.lst (stL fx)) none none none) ?_) ?_
  · have et : tVal (e2 oEq (e2 oIx (eVar 1) (eC (.int 1))) (eC (.int 1))) [some (.val (.scr ns)), some (.val (.lst (row.map .int))), some (.val (.lst (stL W))), some (.val (.lst (stL pl))), some (.val (.lst (stL fx))), some (.own (.lst (stL pl))), some (.own (.lst (stL fx))), none, none, none, none] = .ok (r1 == 1) :=
      tVal_ok (e2_ok (e2_ok (x := .lst (row.map .int)) (y := .int 1) rfl rfl (row_ix g1)) rfl (oEq_int _ _))
    cases h1 : (r1 == 1) with
    | true =>
      rw [h1] at et
      refine Eq.trans (sIf_t et) ?_
      exact sSet_ok (eCall_ok (aCons_ok (d := .tup (stL pl)) (e1_ok (x := .lst (stL pl)) rfl rfl) (aCons_ok (d := .tup (stL fx)) (e1_ok (x := .lst (stL fx)) rfl rfl) rfl)) (decl_make (.inr rfl) (.inr rfl) pw nd (by omega))) rfl
    | false =>
      rw [h1] at et
      refine Eq.trans (sIf_f et) ?_
      have ec : eCall (mkD "Declaring" d_Declaring_init) (aCons (eVar 5) (aCons (eVar 6) aNil)) [some (.val (.scr ns)), some (.val (.lst (row.map .int))), some (.val (.lst (stL W))), some (.val (.lst (stL pl))), some (.val (.lst (stL fx))), some (.val (.lst (stL pl))), some (.val (.lst (stL fx))), none, none, none, none] = .ok (dO pl fx) :=
        eCall_ok (aCons_ok (d := .lst (stL pl)) rfl (aCons_ok (d := .lst (stL fx)) rfl rfl)) (decl_make (.inl rfl) (.inl rfl) pw nd (by omega))
      refine sSet_ok (d := dO pl fx) ?_ rfl
      refine eLend_ok rfl ec ?_
      show (noLs (stL pl) && (noLs (stL fx) && true)) = true
      rw [noLs_stL, noLs_stL]
      rfl
  refine Eq.trans (sSeq_nx (ρ1 := sL (.scr ns) (.lst (row.map .int)) (.lst (stL W)) pl fx (.lst (stL pl ++ [.str "later"])) (.lst (stL fx)) none none none) (sApp_ok (l := stL pl) (d := .str "later") rfl rfl (by rw [stL_len]; rw [List.length_append] at plen; exact Nat.lt_of_lt_of_le (show _ < 1000 by omega) (small_le (Nat.le_refl _))) rfl)) ?_
  refine Eq.trans (sSeq_nx (ρ1 := sL (.scr ns) (.lst (row.map .int)) (.lst (stL W)) pl fx (.lst (stL pl ++ [.str "later"])) (.lst []) none none none) rfl) ?_
  have f1 : ∀ {o5 o6}, e1 (oFld "names") (eVar 7) (sL (.scr ns) (.lst (row.map .int)) (.lst (stL W)) pl fx o5 o6 none none none) = .ok (.tup (stL pl)) := fun {o5 o6} => e1_ok (x := dO pl fx) rfl (by
    show (match lookD [Str.ofString "names", Str.ofString "statics"] [.tup (stL pl), .tup (stL fx)] (Str.ofString "names") with | some v => some v | none => none) = _
    unfold lookD
    rw [if_pos rfl])
  have hne : (Str.ofString "statics") ≠ Str.ofString "names" := by decide +kernel
  have f2 : ∀ {o5 o6}, e1 (oFld "statics") (eVar 7) (sL (.scr ns) (.lst (row.map .int)) (.lst (stL W)) pl fx o5 o6 none none none) = .ok (.tup (stL fx)) := fun {o5 o6} => e1_ok (x := dO pl fx) rfl (by
    show (match lookD [Str.ofString "names", Str.ofString "statics"] [.tup (stL pl), .tup (stL fx)] (Str.ofString "statics") with | some v => some v | none => none) = _
    unfold lookD
    rw [if_neg hne]
    unfold lookD
    rw [if_pos rfl])
  refine Eq.trans (sSeq_nx (Eq.trans (sIf_f (tOr_f (tNot_ok (tTru_bl (b := true) (e1_ok f1 rfl))) (tNot_ok (tTru_bl (b := true) (e1_ok f2 rfl))))) rfl)) ?_
  refine Eq.trans (sSeq_nx (Eq.trans (sIf_f (tOr_f (tVal_ok (e2_ok f1 (e1_ok (x := .lst (stL pl)) rfl rfl) (oNe_tup psm))) (tVal_ok (e2_ok f2 (e1_ok (x := .lst (stL fx)) rfl rfl) (oNe_tup fsm))))) rfl)) ?_
  have loop := forL_st (g := gVar 8) (cl := [8, 9, 10]) (b := b_law_2) (fun _ => sL (.scr ns) (.lst (row.map .int)) (.lst (stL W)) pl fx (.lst (stL pl ++ [.str "later"])) (.lst []) none none none) (rangeD 12) (fun i d hd => by
    obtain ⟨rfl, hi⟩ := rangeD_get hd
    exact ⟨_, .inl (out_step _ _ W pl fx _ _ i (by rw [Wlen]; exact hi) fun w hm => Nat.le_trans (Ww w hm).2 (by decide)), rfl⟩)
  exact Eq.trans (sSeq_nx (Eq.trans (sFor_ok (rg _)) loop)) rfl
end Tw

set_option maxHeartbeats 0
open PySem PySem.W PySem.Calls PyProof.Rows
theorem PySem.Challenge.cw_twicebased_k03_declaring_holds : PySem.Challenge.rw_twicebased_k03_declaring.Holds := by
  w_on; o_law
  refine HandSHeadRun.head_any (r := PySem.W.OpenLaw.row PySem.Challenge.rw_twicebased_k03_declaring) (q := PySem.W.view (PySem.W.OpenLaw.row PySem.Challenge.rw_twicebased_k03_declaring).prog [14]) (H := Tw.hkT) (ob := Tw.obT) (M := 30000) (loose := Tw.nm) (d := HandSHeadRun.topDef (PySem.W.OpenLaw.row PySem.Challenge.rw_twicebased_k03_declaring).prog 14) (kwd := []) Tw.obT_eq
    (by kernel_rfl) (fun s => by kernel_rfl) Tw.runT (by kernel_rfl) (by kernel_rfl) (by kernel_rfl) (by rfl) (by first | assumption | decide +kernel) (by decide +kernel) ⟨rfl, rfl, rfl, rfl, rfl, by decide +kernel⟩ ?hw ?hc
  case hw => w_witness2
  case hc =>
    refine L2.walk_ofE (l := PySem.Challenge.rw_twicebased_k03_declaring) (n := 63) (k := 4) (x := "_law_script") (CX := Tw.CXw (PySem.Challenge.rw_twicebased_k03_declaring).prog) rfl (by decide) (by kernel_rfl) ⟨rfl, by decide, by decide⟩ ?F (fun _ _ _ _ z => z.no)
    intro w mg fa h Y G hmg0
    obtain ⟨K, KX, c⟩ := Y
    have hmg : mg ("law" : PySem.Str) = some (.ref fa) := by
      have e : (HandSHeadRun.topDef (PySem.W.OpenLaw.row PySem.Challenge.rw_twicebased_k03_declaring).prog 14).name = ("law" : PySem.Str) := by kernel_rfl
      rw [← e]
      exact hmg0
    have F := Tw.fx_of KX G c
    have e := hmg.symm.trans F.g_law
    cases e
    have b := L2.FunD.bindsA (ps := ["_law_script"]) F.d_law.choose_spec fun _ _ _ _ _ _ us hl => match us, hl with | [_], _ => rfl
    exact ⟨K, F.d_law.choose, Tw.dsp (Tw.gg F) Tw.d_law, KX, fun s v => b s [v] rfl, fun H a ns hl _ hS => Tw.law_sp F Tw.law_ok H a ns hl hS, fun base _ _ => Tw.FnOk.anyW (Tw.f_law (P := (PySem.Challenge.rw_twicebased_k03_declaring).prog) (w := w) (base := base) F).2.1⟩
