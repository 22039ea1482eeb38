import PyProof.Rows.All
import Wide.All
import OpenK.AllK
import Wide.FinOn
import HandS.ForMost
import HandS.Deep
import HandS.ForExc
import HandS.Defaults
import HandS.IsInst
import HandS.TupAny
import HandS.TupLe
import HandS.CallSlots
import HandS.MakeKwOnly
import HandS.ClsMeth
import HandS.IterVal
import KE.KOwnIter
import HandS.Head0
import HandS.Head1
import HandS.Head2
import HandS.HeadEnd
import HandS.HeadHook1
import HandS.HeadHook2
import HandS.HeadNt
import HandS.Codes
import HandS.ExcInit
import HandS.ExcSuper
import HandS.ExcField
import HandS.ExcIs
import HandS.TryOnly
import KE.KExcSuper
import HandS.MakeKw
import HandS.Style
import KE.KExcIs
import HandS.OwnIter
import HandS.SetFor
import HandS.Zip
import HandS.Rev
import HandS.DictComp
import KE.KExcRaise
import HandS.Text
import HandS.StrMore
import PySem.Challenge.RW_twicebased_k17_convert_large
import HandS.ExcInitHot
import HandS.SuiteRaise
set_option Elab.async false
set_option linter.all false
set_option maxRecDepth 100000
namespace Tw
open PySem
/-- data: a Python value without the heap -/
inductive D where
  | non | bl (b : Bool) | int (i : Int) | str (s : Str) | cls (n : String)
  | scr (ns : List Int) | gst (j : Nat)
  | tup (l : List D) | lst (l : List D)
  | dct (ks : List Str) (vs : List D)
  | obj (c : String) (ks : List Str) (vs : List D)
  deriving Inhabited
/-- an exception: its class, its fields -/
structure Ex where
  cls : String
  ks : List Str
  vs : List D
/-- what comes of a piece of text: a value, an exception, or nothing is said -/
inductive R (α : Type) where
  | ok (a : α) | ex (e : Ex) | no
/-- an operation that raises nothing -/
def R.of {α : Type} : Option α → R α
  | some a => .ok a
  | none => .no
@[simp] theorem R.of_some {α : Type} (a : α) : R.of (some a) = .ok a := rfl
@[simp] theorem R.of_none {α : Type} : R.of (none : Option α) = .no := rfl
def R.bind {α β : Type} : R α → (α → R β) → R β
  | .ok a, f => f a
  | .ex e, _ => .ex e
  | .no, _ => .no
@[simp] theorem R.bind_ok {α β : Type} (a : α) (f : α → R β) : (R.ok a).bind f = f a := rfl
@[simp] theorem R.bind_ex {α β : Type} (e : Ex) (f : α → R β) : (R.ex e : R α).bind f = .ex e := rfl
@[simp] theorem R.bind_no {α β : Type} (f : α → R β) : (R.no : R α).bind f = .no := rfl
/-- a name's content: a value; a container of the def's own (nobody else holds it); the object under construction -/
inductive Slot where
  | val (d : D) | own (d : D) | slf (d : D) | gho (d : D) | ptr
abbrev DEnv := List (Option Slot)
abbrev DE := DEnv → R D
abbrev DT := DEnv → R Bool
abbrev DA := DEnv → R (List D)
abbrev DI := DEnv → R (List D)
abbrev DG := D → DEnv → R DEnv
inductive Out where
  | nx (ρ : DEnv) | rt (d : D) (ρ : DEnv) | bk (ρ : DEnv) | ct (ρ : DEnv) | xx (e : Ex) (ρ : DEnv)
abbrev DS := DEnv → R Out
def atD {α : Type} (l : List α) (i : Int) : Option α :=
  if 0 ≤ i then l[i.toNat]? else if -(l.length : Int) ≤ i then l[(i + l.length).toNat]? else none
def lookD : List Str → List D → Str → Option D
  | k :: ks, v :: vs, x => if x = k then some v else lookD ks vs x
  | _, _, _ => none
/-- the pair is put: replaced, or at the end -/
def putDk (x : Str) : List Str → List Str
  | [] => [x]
  | k :: ks => if x = k then k :: ks else k :: putDk x ks
def putDv (x : Str) (y : D) : List Str → List D → List D
  | k :: ks, v :: vs => if x = k then y :: vs else v :: putDv x y ks vs
  | _, _ => [y]
/-- a dict's pair is put: replaced wherever it stands, or at the end -/
def repDv (x : Str) (y : D) : List Str → List D → List D
  | k :: ks, v :: vs => (if k = x then y else v) :: repDv x y ks vs
  | _, _ => []
def dPutK (x : Str) (ks : List Str) : List Str := if x ∈ ks then ks else ks ++ [x]
def dPutV (x : Str) (y : D) (ks : List Str) (vs : List D) : List D := if x ∈ ks then repDv x y ks vs else vs ++ [y]
def sIxD (n : Nat) (d : Nat) : Option Int → Nat
  | none => d
  | some i => if i < 0 then (i + n).toNat else min i.toNat n
def cutD {α : Type} (l : List α) (lo hi : Option Int) : List α := (l.drop (sIxD l.length 0 lo)).take (sIxD l.length l.length hi - sIxD l.length 0 lo)
def strOkD (x : Str) : Bool := x.cps.all (· < 0x110000)
mutual
/-- Python's == of data -/
def deq : D → D → Bool
  | .non, .non => true
  | .bl a, .bl b => a == b
  | .bl a, .int j => (if a then 1 else 0) == j
  | .int i, .bl b => i == (if b then 1 else 0)
  | .int i, .int j => i == j
  | .str a, .str b => a == b
  | .lst a, .lst b => deqL a b
  | .tup a, .tup b => deqL a b
  | _, _ => false
def deqL : List D → List D → Bool
  | [], [] => true
  | x :: xs, y :: ys => deq x y && deqL xs ys
  | _, _ => false
end
/-- data of the first kinds, texts of true signs, k deep at most -/
def shp : Nat → D → Bool
  | _, .non => true
  | _, .bl _ => true
  | _, .int _ => true
  | _, .str s => strOkD s
  | 0, _ => false
  | k + 1, .lst l => l.all (shp k)
  | k + 1, .tup l => l.all (shp k)
  | _, _ => false
def flatD : D → Bool
  | .non => true | .bl _ => true | .int _ => true | .str _ => true | _ => false
def lineD : Nat := 16777216
/-- the attributes of the program's classes -/
def fldOf : String → List Str
  | "Titled" => ["title"]
  | "Base" => ["title", "is_shared"]
  | "Declaring" => ["names", "statics"]
  | "Draft" => ["title", "names", "statics", "bases"]
  | "Kind" => ["title", "names", "statics", "bases", "above", "shared_bases"]
  | "Library" => ["kinds", "places", "names"]
  | "Table" => ["title", "live", "rows"]
  | "Whole" => ["title", "rows", "answers"]
  | _ => []
def w64 (i : Int) : Prop := -(2 ^ 64) < i ∧ i < 2 ^ 64
instance (n : Int) : Decidable (w64 n) := by unfold w64; infer_instance
theorem w64_of {n : Int} (h : -1000000000000000000 < n) (k : n < 1000000000000000000) : w64 n := by unfold w64; omega
def oAdd : D → D → Option D
  | .int i, .int j => some (.int (i + j))
  | .str a, .str b => if a.length + b.length ≤ lineD then some (.str (a ++ b)) else none
  | .lst a, .lst b => if a.length + b.length ≤ lineD then some (.lst (a ++ b)) else none
  | .tup a, .tup b => if a.length + b.length ≤ lineD then some (.tup (a ++ b)) else none
  | _, _ => none
def oSub : D → D → Option D
  | .int i, .int j => some (.int (i - j))
  | _, _ => none
def repS (s : Str) : Nat → Str
  | 0 => Str.empty
  | n + 1 => s ++ repS s n
def oMul : D → D → Option D
  | .int i, .int j => if w64 i ∨ w64 j then some (.int (i * j)) else none
  | .lst a, .int k => if -(2 ^ 63) ≤ k ∧ k < 2 ^ 63 ∧ a.length * k.toNat ≤ lineD then some (.lst ((List.replicate k.toNat a).flatten)) else none
  | .str s, .int k => if 0 ≤ k ∧ k ≤ 1 then some (.str (repS s k.toNat)) else none
  | _, _ => none
def oFdiv : D → D → Option D
  | .int i, .int j => if 0 < j ∧ j < 1073741824 then some (.int (i / j)) else none
  | _, _ => none
def oMod : D → D → Option D
  | .int i, .int j => if 0 < j then some (.int (i % j)) else none
  | _, _ => none
def oPow : D → D → Option D
  | .int i, .int j => if 0 ≤ j ∧ j ≤ 1000000 ∧ i.natAbs < 2 ^ 64 then some (.int (i ^ j.toNat)) else none
  | _, _ => none
def oLt : D → D → Option D
  | .int i, .int j => some (.bl (decide (i < j)))
  | _, _ => none
def oLe : D → D → Option D
  | .int i, .int j => some (.bl (decide (i ≤ j)))
  | _, _ => none
def oGt : D → D → Option D
  | .int i, .int j => some (.bl (decide (j < i)))
  | _, _ => none
def oGe : D → D → Option D
  | .int i, .int j => some (.bl (decide (j ≤ i)))
  | _, _ => none
/-- pairs of flat data that are compared at once -/
def scalD : D → D → Bool
  | .non, .non => true | .non, .int _ => true | .int _, .non => true | .non, .bl _ => true | .bl _, .non => true | .non, .str _ => true | .str _, .non => true
  | .int _, .int _ => true | .bl _, .bl _ => true | .str _, .str _ => true
  | .int _, .str _ => true | .str _, .int _ => true | .bl _, .str _ => true | .str _, .bl _ => true
  | _, _ => false
def eqD (x y : D) : Option Bool := if scalD x y then some (deq x y) else if shp 60 x && shp 60 y then some (deq x y) else none
def oEq (x y : D) : Option D := (eqD x y).bind fun b => some (.bl b)
def oNe (x y : D) : Option D := (eqD x y).bind fun b => some (.bl (!b))
def sgnD (s : Str) : Option Nat := match s.cps.toList with
  | [c] => some c
  | _ => none
def isNonD : D → Bool
  | .non => true
  | _ => false
/-- x in y: a sign in a text; flat data in a list or tuple; any in a list; a key -/
def inD (x y : D) : Option Bool :=
  match y with
  | .str t => match x with
    | .str s => (sgnD s).map fun c => decide (c ∈ t.cps.toList)
    | _ => none
  | .lst l => if flatD x && l.all flatD then some (l.any fun y => deq y x) else if shp 60 x && l.all (shp 60) then some (l.any fun y => deq y x) else none
  | .tup l => if flatD x && l.all flatD then some (l.any fun y => deq y x) else none
  | .dct ks vs => match x with
    | .str s => some (lookD ks vs s).isSome
    | _ => none
  | _ => none
def oIn (x y : D) : Option D := (inD x y).bind fun b => some (.bl b)
def oNotIn (x y : D) : Option D := (inD x y).bind fun b => some (.bl (!b))
def oIsN (x : D) : Option D := some (.bl (isNonD x))
def oIsNotN (x : D) : Option D := some (.bl (!isNonD x))
def oIx : D → D → Option D
  | .lst l, .int i => match atD l i with | some v => some v | none => none
  | .tup l, .int i => match atD l i with | some v => some v | none => none
  | .scr l, .int i => match atD l i with | some v => some (.int v) | none => none
  | .str s, .int i => if s.length ≤ lineD then (match atD s.cps.toList i with | some c => some (.str ⟨#[c]⟩) | none => none) else none
  | .dct ks vs, .str s => match lookD ks vs s with | some v => some v | none => none
  | _, _ => none
def oSl (lo hi : Option Int) : D → Option D
  | .lst l => some (.lst (cutD l lo hi))
  | .tup l => some (.tup (cutD l lo hi))
  | .str s => if s.length ≤ lineD then some (.str ⟨(cutD s.cps.toList lo hi).toArray⟩) else none
  | _ => none
def oFld (f : Str) : D → Option D
  | .obj _ ks vs => match lookD ks vs f with | some v => some v | none => none
  | _ => none
def oNeg : D → Option D
  | .int i => some (.int (-i))
  | _ => none
def oLen : D → Option D
  | .lst l => some (.int l.length)
  | .tup l => some (.int l.length)
  | .scr l => some (.int l.length)
  | .str s => if s.length ≤ lineD then some (.int s.length) else none
  | _ => none
def oInt : D → Option D
  | .int i => some (.int i)
  | .bl b => some (.int (if b then 1 else 0))
  | _ => none
def oAbs : D → Option D
  | .int i => some (.int (if i < 0 then -i else i))
  | _ => none
def intsD : List D → Option (List Int)
  | [] => some []
  | .int i :: l => (intsD l).map (i :: ·)
  | _ :: _ => none
def blsD : List D → Option (List Bool)
  | [] => some []
  | .bl i :: l => (blsD l).map (i :: ·)
  | _ :: _ => none
def strsD : List D → Option (List Str)
  | [] => some []
  | .str i :: l => (strsD l).map (i :: ·)
  | _ :: _ => none
def oSum : D → Option D
  | .lst l => match intsD l with | some ns => some (.int ns.sum) | none => none
  | .scr ns => some (.int ns.sum)
  | _ => none
def oAll : D → Option D
  | .lst l => match blsD l with | some bs => some (.bl (bs.all id)) | none => none
  | _ => none
/-- isinstance(x, T), T a built-in class of these -/
def oIsi (t : String) : D → Option D
  | .bl _ => if t = "bool" ∨ t = "int" then some (.bl true) else if t = "str" ∨ t = "tuple" ∨ t = "list" then some (.bl false) else none
  | .int _ => if t = "int" then some (.bl true) else if t = "bool" ∨ t = "str" ∨ t = "tuple" ∨ t = "list" then some (.bl false) else none
  | .str _ => if t = "str" then some (.bl true) else if t = "bool" ∨ t = "int" ∨ t = "tuple" ∨ t = "list" then some (.bl false) else none
  | .tup _ => if t = "tuple" then some (.bl true) else if t = "bool" ∨ t = "int" ∨ t = "str" ∨ t = "list" then some (.bl false) else none
  | .lst _ => if t = "list" then some (.bl true) else if t = "bool" ∨ t = "int" ∨ t = "str" ∨ t = "tuple" then some (.bl false) else none
  | .non => if t = "bool" ∨ t = "int" ∨ t = "str" ∨ t = "tuple" ∨ t = "list" then some (.bl false) else none
  | _ => none
def oMax : D → D → Option D
  | .int i, .int j => some (.int (if j > i then j else i))
  | _, _ => none
def oList : D → Option D
  | .lst l => some (.lst l)
  | .tup l => some (.lst l)
  | _ => none
def oTuple : D → Option D
  | .lst l => some (.tup l)
  | .tup l => some (.tup l)
  | _ => none
/-- truth -/
def truD : D → Option Bool
  | .non => some false
  | .bl b => some b
  | .int i => some (i != 0)
  | .str s => if s.length ≤ lineD then some ((s.length : Int) != 0) else none
  | .lst l => some (!l.isEmpty)
  | .tup l => some (!l.isEmpty)
  | .dct ks _ => some (!ks.isEmpty)
  | _ => none
/-- what a for or a comprehension walks -/
def iterD : D → Option (List D)
  | .lst l => some l
  | .tup l => some l
  | .str s => some (s.cps.toList.map fun c => .str ⟨#[c]⟩)
  | _ => none
def rngOk (n : Int) : Prop := -(2 ^ 62) ≤ n ∧ n < 2 ^ 62
instance (n : Int) : Decidable (rngOk n) := by unfold rngOk; infer_instance
theorem rngOk_of {n : Int} (h : 0 ≤ n) (k : n < 1000000000) : rngOk n := by unfold rngOk; omega
def rangeD (n : Int) : List D := (List.range n.toNat).map fun i => .int (Int.ofNat i)
def eVar (i : Nat) : DE := fun ρ => match ρ[i]? with
  | some (some (.val d)) => .ok d
  | _ => .no
/-- a name that is only looked at (its container may be the def's own) -/
def eLook (i : Nat) : DE := fun ρ => match ρ[i]? with
  | some (some (.val d)) => .ok d
  | some (some (.own d)) => .ok d
  | _ => .no
def eC (d : D) : DE := fun _ => .ok d
def e1 (f : D → Option D) (a : DE) : DE := fun ρ => (a ρ).bind fun x => R.of (f x)
def e2 (f : D → D → Option D) (a b : DE) : DE := fun ρ => (a ρ).bind fun x => (b ρ).bind fun y => R.of (f x y)
abbrev DO := DEnv → R (Option Int)
def xNone : DO := fun _ => .ok none
def xSome (e : DE) : DO := fun ρ => (e ρ).bind fun x => match x with | .int i => .ok (some i) | _ => .no
def eSl (a : DE) (lo hi : DO) : DE := fun ρ => (a ρ).bind fun x => (lo ρ).bind fun l => (hi ρ).bind fun h => R.of (oSl l h x)
def eIf (c : DT) (a b : DE) : DE := fun ρ => (c ρ).bind fun k => if k then a ρ else b ρ
def eAnd (a b : DE) : DE := fun ρ => (a ρ).bind fun x => match x with | .bl true => b ρ | .bl false => .ok (.bl false) | _ => .no
def eOr (a b : DE) : DE := fun ρ => (a ρ).bind fun x => match x with | .bl false => b ρ | .bl true => .ok (.bl true) | _ => .no
def eNot (a : DE) : DE := fun ρ => (a ρ).bind fun x => match x with | .bl k => .ok (.bl (!k)) | _ => .no
def aNil : DA := fun _ => .ok []
def aCons (a : DE) (as : DA) : DA := fun ρ => (a ρ).bind fun x => (as ρ).bind fun xs => .ok (x :: xs)
def eCall (f : List D → R D) (as : DA) : DE := fun ρ => (as ρ).bind f
/-- o.m(..), o an object of a class of cs -/
def eMeth (cs : List String) (f : List D → R D) (o : DE) (as : DA) : DE := fun ρ => (o ρ).bind fun x => match x with
  | .obj c ks vs => if c ∈ cs then (as ρ).bind fun xs => f (.obj c ks vs :: xs) else .no
  | _ => .no
def eTup (as : DA) : DE := fun ρ => (as ρ).bind fun xs => if xs.length ≤ lineD then .ok (.tup xs) else .no
def eLst (as : DA) : DE := fun ρ => (as ρ).bind fun xs => if xs.length ≤ lineD then .ok (.lst xs) else .no
def iOf (a : DE) : DI := fun ρ => (a ρ).bind fun x => R.of (iterD x)
def rngR (x : D) : R (List D) := match x with | .int n => if rngOk n then .ok (rangeD n) else .no | _ => .no
theorem rngR_ok {n : Int} (h : rngOk n) : rngR (.int n) = .ok (rangeD n) := if_pos h
def iRange (a : DE) : DI := fun ρ => (a ρ).bind rngR
/-- a comprehension's turns; an exception within is not served -/
def compL (g : DG) (c : DT) (e : DE) (ρ : DEnv) : List D → R (List D)
  | [] => .ok []
  | x :: xs => match g x ρ with
    | .ok ρ' => match c ρ' with
      | .ok true => match e ρ' with
        | .ok y => match compL g c e ρ xs with
          | .ok ys => .ok (y :: ys)
          | _ => .no
        | _ => .no
      | .ok false => compL g c e ρ xs
      | _ => .no
    | _ => .no
/-- the block's own names, forgotten -/
def okW (vs : List Nat) (ρ : DEnv) : Bool := vs.all fun v => match ρ[v]? with
  | some none => true
  | some (some (.val _)) => true
  | _ => false
def wipD (vs : List Nat) (ρ : DEnv) : DEnv := vs.foldr (fun v r => r.set v none) ρ
def eComp (it : DI) (vs : List Nat) (g : DG) (c : DT) (e : DE) : DE := fun ρ => (it ρ).bind fun l => if l.length ≤ lineD ∧ okW vs ρ = true then (compL g c e (wipD vs ρ) l).bind fun ys => .ok (.lst ys) else .no
/-- the inner turns of [e for x in a for y in b] -/
def comp2L (g : DG) (it1 : DI) (vs1 : List Nat) (g1 : DG) (c1 : DT) (e : DE) (ρ : DEnv) : List D → R (List D)
  | [] => .ok []
  | x :: xs => match g x ρ with
    | .ok ρ' => match it1 ρ' with
      | .ok l1 => if okW vs1 ρ' = true then (match compL g1 c1 e (wipD vs1 ρ') l1 with
        | .ok ys => match comp2L g it1 vs1 g1 c1 e ρ xs with
          | .ok zs => .ok (ys ++ zs)
          | _ => .no
        | _ => .no) else .no
      | _ => .no
    | _ => .no
def eComp2 (it : DI) (vs : List Nat) (g : DG) (it1 : DI) (vs1 : List Nat) (g1 : DG) (c1 : DT) (e : DE) : DE := fun ρ => (it ρ).bind fun l => if okW vs ρ = true then (comp2L g it1 vs1 g1 c1 e (wipD vs ρ) l).bind fun ys => if ys.length ≤ lineD then .ok (.lst ys) else .no else .no
def tYesD : DT := fun _ => .ok true
def tVal (a : DE) : DT := fun ρ => (a ρ).bind fun x => match x with | .bl k => .ok k | _ => .no
def tTru (a : DE) : DT := fun ρ => (a ρ).bind fun x => R.of (truD x)
def tAndD (a b : DT) : DT := fun ρ => (a ρ).bind fun k => if k then b ρ else .ok false
def tOrD (a b : DT) : DT := fun ρ => (a ρ).bind fun k => if k then .ok true else b ρ
def tNotD (a : DT) : DT := fun ρ => (a ρ).bind fun k => .ok (!k)
/-- the name gets a value -/
def setV (i : Nat) (d : D) (ρ : DEnv) : R DEnv := match ρ[i]? with
  | some (some (.slf _)) => .no
  | some (some (.gho _)) => .no
  | some _ => .ok (ρ.set i (some (.val d)))
  | none => .no
def setO (i : Nat) (d : D) (ρ : DEnv) : R DEnv := match ρ[i]? with
  | some (some (.slf _)) => .no
  | some (some (.gho _)) => .no
  | some _ => .ok (ρ.set i (some (.own d)))
  | none => .no
def gVar (i : Nat) : DG := setV i
def gVars : List Nat → List D → DEnv → R DEnv
  | [], [], ρ => .ok ρ
  | i :: is, d :: ds, ρ => (setV i d ρ).bind fun ρ' => gVars is ds ρ'
  | _, _, _ => .no
def gTupD (is : List Nat) : DG := fun d ρ => match d with | .tup l => gVars is l ρ | _ => .no
/-- an exception out of an expression leaves the statement -/
def R.st {α : Type} (r : R α) (ρ : DEnv) (f : α → R Out) : R Out := match r with
  | .ok a => f a
  | .ex e => .ok (.xx e ρ)
  | .no => .no
@[simp] theorem R.st_ok {α : Type} (a : α) (ρ : DEnv) (f : α → R Out) : (R.ok a).st ρ f = f a := rfl
@[simp] theorem R.st_ex {α : Type} (e : Ex) (ρ : DEnv) (f : α → R Out) : (R.ex e : R α).st ρ f = .ok (.xx e ρ) := rfl
@[simp] theorem R.st_no {α : Type} (ρ : DEnv) (f : α → R Out) : (R.no : R α).st ρ f = .no := rfl
def sNext : DS := fun ρ => .ok (.nx ρ)
def sBrk : DS := fun ρ => .ok (.bk ρ)
def sCnt : DS := fun ρ => .ok (.ct ρ)
def sSeq (a b : DS) : DS := fun ρ => match a ρ with
  | .ok (.nx ρ') => b ρ'
  | r => r
def sSet (i : Nat) (e : DE) : DS := fun ρ => (e ρ).st ρ fun d => (setV i d ρ).bind fun ρ' => .ok (.nx ρ')
/-- the name gets a new container of its own -/
def sOwn (i : Nat) (e : DE) : DS := fun ρ => (e ρ).st ρ fun d => (setO i d ρ).bind fun ρ' => .ok (.nx ρ')
/-- the container is given out: from here on it stands -/
def frzD (i : Nat) (ρ : DEnv) : DEnv := match ρ[i]? with
  | some (some (.own d)) => ρ.set i (some (.val d))
  | _ => ρ
def sFrz (is : List Nat) (a : DS) : DS := fun ρ => a (is.foldl (fun r i => frzD i r) ρ)
/-- names that are dead are forgotten -/
def clr1 (i : Nat) (ρ : DEnv) : DEnv := match ρ[i]? with
  | some (some (.val _)) => ρ.set i none
  | some (some (.own _)) => ρ.set i none
  | _ => ρ
def clrD (is : List Nat) (ρ : DEnv) : DEnv := is.foldl (fun r i => clr1 i r) ρ
def sClr (is : List Nat) : DS := fun ρ => .ok (.nx (clrD is ρ))
def sAsg (e : DE) (g : DG) : DS := fun ρ => (e ρ).st ρ fun d => (g d ρ).bind fun ρ' => .ok (.nx ρ')
def sDrop (e : DE) : DS := fun ρ => (e ρ).st ρ fun _ => .ok (.nx ρ)
def sRet (e : DE) : DS := fun ρ => (e ρ).st ρ fun d => .ok (.rt d ρ)
def sRetN : DS := fun ρ => .ok (.rt .non ρ)
def sIf (c : DT) (a b : DS) : DS := fun ρ => (c ρ).st ρ fun k => if k then a ρ else b ρ
def forL (g : DG) (cl : List Nat) (b : DS) : List D → DEnv → R Out
  | [], ρ => .ok (.nx ρ)
  | x :: xs, ρ => match (g x ρ).bind b with
    | .ok (.nx ρ') => forL g cl b xs (clrD cl ρ')
    | .ok (.ct ρ') => forL g cl b xs (clrD cl ρ')
    | .ok (.bk ρ') => .ok (.nx ρ')
    | r => r
def sFor (it : DI) (g : DG) (cl : List Nat) (b : DS) : DS := fun ρ => (it ρ).st ρ fun l => forL g cl b l (clrD cl ρ)
def whileL (c : DT) (cl : List Nat) (b : DS) : Nat → DEnv → R Out
  | 0, _ => .no
  | n + 1, ρ => (c ρ).st ρ fun k => if k then (match b ρ with
    | .ok (.nx ρ') => whileL c cl b n (clrD cl ρ')
    | .ok (.ct ρ') => whileL c cl b n (clrD cl ρ')
    | .ok (.bk ρ') => .ok (.nx ρ')
    | r => r) else .ok (.nx ρ)
def sWhile (n : Nat) (c : DT) (cl : List Nat) (b : DS) : DS := fun ρ => whileL c cl b n (clrD cl ρ)
/-- x.append(e), x the def's own list -/
def sApp (i : Nat) (e : DE) : DS := fun ρ => match ρ[i]? with
  | some (some (.own (.lst l))) => (e ρ).st ρ fun y => if l.length < lineD then .ok (.nx (ρ.set i (some (.own (.lst (l ++ [y])))))) else .no
  | _ => .no
def sClear (i : Nat) : DS := fun ρ => match ρ[i]? with
  | some (some (.own (.lst _))) => .ok (.nx (ρ.set i (some (.own (.lst [])))))
  | _ => .no
def sPutD (i : Nat) (k e : DE) : DS := fun ρ => (e ρ).st ρ fun v => match ρ[i]? with
  | some (some (.own (.dct ks vs))) => (k ρ).st ρ fun x => match x with
    | .str s => if ks.length < lineD then .ok (.nx (ρ.set i (some (.own (.dct (dPutK s ks) (dPutV s v ks vs)))))) else .no
    | _ => .no
  | _ => .no
/-- x[k] = e, x the def's own list -/
def sPutL (i : Nat) (k e : DE) : DS := fun ρ => (e ρ).st ρ fun v => match ρ[i]? with
  | some (some (.own (.lst l))) => (k ρ).st ρ fun x => match x with
    | .int j => if 0 ≤ j ∧ j < l.length then .ok (.nx (ρ.set i (some (.own (.lst (l.set j.toNat v)))))) else .no
    | _ => .no
  | _ => .no
/-- x = y.pop(), y the def's own list -/
def sPop (i j : Nat) : DS := fun ρ => match ρ[j]? with
  | some (some (.own (.lst l))) => match l.getLast? with
    | some x => (setV i x (ρ.set j (some (.own (.lst l.dropLast))))).bind fun ρ' => .ok (.nx ρ')
    | none => .no
  | _ => .no
def sAug (i : Nat) (f : D → D → Option D) (e : DE) : DS := fun ρ => match ρ[i]? with
  | some (some (.val x)) => (e ρ).st ρ fun y => match f x y with
    | some z => (setV i z ρ).bind fun ρ' => .ok (.nx ρ')
    | none => .no
  | _ => .no
/-- self.f = e -/
def putF (f : Str) (v : D) : D → Option D
  | .obj c ks vs => if ks.length < 999 ∧ f ∈ fldOf c then some (.obj c (putDk f ks) (putDv f v ks vs)) else none
  | _ => none
def sFld (i : Nat) (f : Str) (e : DE) : DS := fun ρ => (e ρ).st ρ fun v => match ρ[i]? with
  | some (some (.slf d)) => match putF f v d with
    | some d' => .ok (.nx (ρ.set i (some (.slf d'))))
    | _ => .no
  | _ => .no
/-- raise cn(..), its fields fs -/
def sRaise (cn : String) (fs : List Str) (as : DA) : DS := fun ρ => (as ρ).st ρ fun xs => if xs.length = fs.length then .ok (.xx ⟨cn, fs.reverse, xs.reverse⟩ ρ) else .no
def envD (n : Nat) (ds : List D) : DEnv := ds.map (fun d => some (.val d)) ++ List.replicate (n - ds.length) none
/-- a def's meaning: n names, the parameters first -/
def defD (n p : Nat) (b : DS) (ds : List D) : R D := if ds.length = p then (match b (envD n ds) with
  | .ok (.rt d _) => .ok d
  | .ok (.nx _) => .ok .non
  | .ok (.xx e _) => .ex e
  | _ => .no) else .no
/-- no field of the object waits for a container of its own -/
def noGst : List D → Bool
  | [] => true
  | .gst _ :: _ => false
  | _ :: l => noGst l
/-- an __init__'s meaning, the object under construction whole at its end -/
def slfP (ρ : DEnv) (d : D) : R (D × D) := match ρ with
  | some (.slf (.obj c ks l)) :: _ => if noGst l then .ok (d, .obj c ks l) else .no
  | _ => .no
def initP (n p : Nat) (b : DS) (s : D) (ds : List D) : R (D × D) := if ds.length + 1 = p then (match b (some (.slf s) :: envD (n - 1) ds) with
  | .ok (.rt d ρ) => slfP ρ d
  | .ok (.nx ρ) => slfP ρ .non
  | .ok (.xx e _) => .ex e
  | _ => .no) else .no
/-- C(..) -/
def mkD (c : String) (init : D → List D → R (D × D)) (ds : List D) : R D := (init (.obj c [] []) ds).bind fun p => match p.1 with
  | .non => .ok p.2
  | _ => .no
end Tw

set_option maxHeartbeats 2000000
namespace Tw
open PySem PySem.Spec L2
open PyProof.Rows hiding St
def KTup (K : PySem.W.Frag) (a : Addr) (xs : List V) : Prop := ∃ (o : Obj) (its : Array Value) (n : Nat), K.lookup a = some o ∧ o.cls = .type "tuple" ∧ o.data = .seq its n ∧ its.size ≤ sizeLine ∧ Vals xs its.toList
def KLst (K : PySem.W.Frag) (a : Addr) (xs : List V) : Prop := ∃ (o : Obj) (its : Array Value) (n : Nat), K.lookup a = some o ∧ o.cls = .type "list" ∧ o.dict = none ∧ o.data = .seq its n ∧ its.size ≤ sizeLine ∧ Vals xs its.toList
structure Gc where
  K : PySem.W.Frag
  cm : String → Addr
  has : String → Prop
  cls : ∀ c, has c → Cls K (cm c)
  noat : ∀ c f, has c → f ∈ fldOf c → NoAttr K (cm c) f
def OkO (G : Gc) (c : String) (ks : List Str) : Prop := G.has c ∧ ∀ f ∈ ks, f ∈ fldOf c
def sKeys : List Str → List V → List (Key × V)
  | k :: ks, v :: vs => (Sum.inr k, v) :: sKeys ks vs
  | _, _ => []
def fKeys : List Str → List V → List (Str × V)
  | k :: ks, v :: vs => (k, v) :: fKeys ks vs
  | _, _ => []
mutual
/-- the value v stands for the data d; what it leans on is not in Z -/
def Rep (G : Gc) (Z : Addr → Prop) (H : Hp) : D → V → Prop
  | .non, v => v = .non
  | .bl b, v => v = .bl b
  | .int i, v => v = .int i
  | .str s, v => v = .str s
  | .cls n, v => v = .ref (G.cm n)
  | .gst _, _ => False
  | .scr ns, v => ∃ a, v = .ref a ∧ ((¬ Z a ∧ Rd H a (.lst (ns.map V.int))) ∨ KLst G.K a (ns.map V.int))
  | .tup l, v => ∃ a vs, v = .ref a ∧ ((¬ Z a ∧ H a = some (.tup vs)) ∨ KTup G.K a vs) ∧ RepL G Z H l vs
  | .lst l, v => ∃ a vs, v = .ref a ∧ ¬ Z a ∧ H a = some (.lst vs) ∧ RepL G Z H l vs
  | .dct ks l, v => ∃ a vs, v = .ref a ∧ ¬ Z a ∧ H a = some (.dK (sKeys ks vs)) ∧ ks.length = vs.length ∧ RepL G Z H l vs
  | .obj c ks l, v => ∃ a dx vs, v = .ref a ∧ ¬ Z a ∧ H a = some (.ins (G.cm c) dx (fKeys ks vs)) ∧ (ks.length = vs.length ∧ OkO G c ks) ∧ RepL G Z H l vs
def RepL (G : Gc) (Z : Addr → Prop) (H : Hp) : List D → List V → Prop
  | [], vs => vs = []
  | d :: ds, vs => ∃ v r, vs = v :: r ∧ Rep G Z H d v ∧ RepL G Z H ds r
end
/-- H' has all of H that is not in Z -/
def Sub (Z : Addr → Prop) (H H' : Hp) : Prop := ∀ a o, ¬ Z a → H a = some o → H' a = some o
theorem Same.sub {Z : Addr → Prop} {H H' : Hp} (s : Same H H') : Sub Z H H' := fun a o _ h => s a o h
mutual
theorem Rep.mono {G : Gc} {Z Z' : Addr → Prop} {H H' : Hp} (s : Sub Z H H') (z : ∀ a, Z' a → Z a ∨ H a = none) : ∀ {d : D} {v : V}, Rep G Z H d v → Rep G Z' H' d v
  | .non, v, h => h
  | .bl b, v, h => h
  | .int i, v, h => h
  | .str x, v, h => h
  | .cls n, v, h => h
  | .gst j, v, h => h.elim
  | .scr ns, v, h => by
    obtain ⟨a, e, h⟩ := h
    rcases h with ⟨n, h | ⟨o, h⟩⟩ | h
    · exact ⟨a, e, .inl ⟨fun q => (z a q).elim n (fun q => by rw [q] at h; cases h), .inl (s a _ n h)⟩⟩
    · exact ⟨a, e, .inl ⟨fun q => (z a q).elim n (fun q => by rw [q] at h; cases h), .inr ⟨o, s a _ n h⟩⟩⟩
    · exact ⟨a, e, .inr h⟩
  | .tup l, v, h => by
    obtain ⟨a, vs, e, t, r⟩ := h
    refine ⟨a, vs, e, ?_, RepL.mono s z r⟩
    rcases t with ⟨n, t⟩ | t
    · exact .inl ⟨fun q => (z a q).elim n (fun q => by rw [q] at t; cases t), s a _ n t⟩
    · exact .inr t
  | .lst l, v, h => by
    obtain ⟨a, vs, e, n, t, r⟩ := h
    exact ⟨a, vs, e, fun q => (z a q).elim n (fun q => by rw [q] at t; cases t), s a _ n t, RepL.mono s z r⟩
  | .dct ks l, v, h => by
    obtain ⟨a, vs, e, n, t, k, r⟩ := h
    exact ⟨a, vs, e, fun q => (z a q).elim n (fun q => by rw [q] at t; cases t), s a _ n t, k, RepL.mono s z r⟩
  | .obj c ks l, v, h => by
    obtain ⟨a, dx, vs, e, n, t, k, r⟩ := h
    exact ⟨a, dx, vs, e, fun q => (z a q).elim n (fun q => by rw [q] at t; cases t), s a _ n t, k, RepL.mono s z r⟩
theorem RepL.mono {G : Gc} {Z Z' : Addr → Prop} {H H' : Hp} (s : Sub Z H H') (z : ∀ a, Z' a → Z a ∨ H a = none) : ∀ {ds : List D} {vs : List V}, RepL G Z H ds vs → RepL G Z' H' ds vs
  | [], vs, h => h
  | d :: ds, vs, h => by
    obtain ⟨v, r, e, h1, h2⟩ := h
    exact ⟨v, r, e, Rep.mono s z h1, RepL.mono s z h2⟩
end
section
variable {G : Gc} {Z Z' : Addr → Prop} {H H' : Hp}
theorem Rep.same (s : Same H H') {d : D} {v : V} (h : Rep G Z H d v) : Rep G Z H' d v := Rep.mono (Same.sub s) (fun _ q => .inl q) h
theorem RepL.same (s : Same H H') {d : List D} {v : List V} (h : RepL G Z H d v) : RepL G Z H' d v := RepL.mono (Same.sub s) (fun _ q => .inl q) h
theorem Rep.weak (z : ∀ a, Z' a → Z a) {d : D} {v : V} (h : Rep G Z H d v) : Rep G Z' H d v := Rep.mono (fun _ _ _ h => h) (fun a q => .inl (z a q)) h
theorem RepL.weak (z : ∀ a, Z' a → Z a) {d : List D} {v : List V} (h : RepL G Z H d v) : RepL G Z' H d v := RepL.mono (fun _ _ _ h => h) (fun a q => .inl (z a q)) h
theorem RepL.length : ∀ {ds : List D} {vs : List V}, RepL G Z H ds vs → ds.length = vs.length
  | [], vs, h => by rw [show vs = [] from h]; rfl
  | d :: ds, vs, h => by
    obtain ⟨v, r, e, _, h2⟩ := h
    rw [e, List.length_cons, List.length_cons, RepL.length h2]
theorem RepL.get : ∀ {ds : List D} {vs : List V} {i : Nat} {d : D}, RepL G Z H ds vs → ds[i]? = some d → ∃ v, vs[i]? = some v ∧ Rep G Z H d v
  | [], vs, i, d, h, e => by simp at e
  | d' :: ds, vs, 0, d, h, e => by
    obtain ⟨v, r, rfl, h1, _⟩ := h
    simp at e
    subst e
    exact ⟨v, rfl, h1⟩
  | d' :: ds, vs, i + 1, d, h, e => by
    obtain ⟨v, r, rfl, _, h2⟩ := h
    obtain ⟨u, e1, e2⟩ := RepL.get (i := i) h2 (by simpa using e)
    exact ⟨u, by simpa using e1, e2⟩
theorem RepL.append : ∀ {ds es : List D} {vs us : List V}, RepL G Z H ds vs → RepL G Z H es us → RepL G Z H (ds ++ es) (vs ++ us)
  | [], es, vs, us, h, k => by rw [show vs = [] from h]; exact k
  | d :: ds, es, vs, us, h, k => by
    obtain ⟨v, r, rfl, h1, h2⟩ := h
    exact ⟨v, r ++ us, rfl, h1, RepL.append h2 k⟩
theorem RepL.take : ∀ {ds : List D} {vs : List V} (n : Nat), RepL G Z H ds vs → RepL G Z H (ds.take n) (vs.take n)
  | ds, vs, 0, _ => by simp [RepL]
  | [], vs, n + 1, h => by rw [show vs = [] from h]; simp [RepL]
  | d :: ds, vs, n + 1, h => by
    obtain ⟨v, r, rfl, h1, h2⟩ := h
    exact ⟨v, r.take n, rfl, h1, RepL.take n h2⟩
theorem RepL.drop : ∀ {ds : List D} {vs : List V} (n : Nat), RepL G Z H ds vs → RepL G Z H (ds.drop n) (vs.drop n)
  | ds, vs, 0, h => h
  | [], vs, n + 1, h => by rw [show vs = [] from h]; simp [RepL]
  | d :: ds, vs, n + 1, h => by
    obtain ⟨v, r, rfl, h1, h2⟩ := h
    exact RepL.drop n h2
theorem RepL.set : ∀ {ds : List D} {vs : List V} {d : D} {v : V} (n : Nat), RepL G Z H ds vs → Rep G Z H d v → RepL G Z H (ds.set n d) (vs.set n v)
  | [], vs, _, _, n, h, _ => by rw [show vs = [] from h]; simp [RepL]
  | d :: ds, vs, e, w, 0, h, k => by
    obtain ⟨v, r, rfl, h1, h2⟩ := h
    exact ⟨w, r, rfl, k, h2⟩
  | d :: ds, vs, e, w, n + 1, h, k => by
    obtain ⟨v, r, rfl, h1, h2⟩ := h
    exact ⟨v, r.set n w, rfl, h1, RepL.set n h2 k⟩
theorem RepL.one {d : D} {v : V} (h : Rep G Z H d v) : RepL G Z H [d] [v] := ⟨v, [], rfl, h, rfl⟩
theorem RepL.cons {d : D} {v : V} {ds : List D} {vs : List V} (h : Rep G Z H d v) (t : RepL G Z H ds vs) : RepL G Z H (d :: ds) (v :: vs) := ⟨v, vs, rfl, h, t⟩
theorem RepL.nil : RepL G Z H [] [] := rfl
end
/-- a container, its items; it may be anybody's -/
def RepW (G : Gc) (Z : Addr → Prop) (H : Hp) (d : D) (v : V) : Prop := match d with
  | .lst l => ∃ a vs, v = .ref a ∧ H a = some (.lst vs) ∧ RepL G Z H l vs
  | .dct ks l => ∃ a vs, v = .ref a ∧ H a = some (.dK (sKeys ks vs)) ∧ ks.length = vs.length ∧ RepL G Z H l vs
  | .obj c ks l => ∃ a dx vs, v = .ref a ∧ H a = some (.ins (G.cm c) dx (fKeys ks vs)) ∧ (ks.length = vs.length ∧ OkO G c ks) ∧ RepL G Z H l vs
  | d => Rep G Z H d v
theorem Rep.w {G : Gc} {Z : Addr → Prop} {H : Hp} {d : D} {v : V} (h : Rep G Z H d v) : RepW G Z H d v := by
  cases d with
  | lst l => obtain ⟨a, vs, e, _, t, r⟩ := h; exact ⟨a, vs, e, t, r⟩
  | dct ks l => obtain ⟨a, vs, e, _, t, k, r⟩ := h; exact ⟨a, vs, e, t, k, r⟩
  | obj c ks l => obtain ⟨a, dx, vs, e, _, t, k, r⟩ := h; exact ⟨a, dx, vs, e, t, k, r⟩
  | _ => exact h
theorem RepW.same {G : Gc} {Z : Addr → Prop} {H H' : Hp} (s : Same H H') {d : D} {v : V} (h : RepW G Z H d v) : RepW G Z H' d v := by
  cases d with
  | lst l => obtain ⟨a, vs, e, t, r⟩ := h; exact ⟨a, vs, e, s _ _ t, r.same s⟩
  | dct ks l => obtain ⟨a, vs, e, t, k, r⟩ := h; exact ⟨a, vs, e, s _ _ t, k, r.same s⟩
  | obj c ks l => obtain ⟨a, dx, vs, e, t, k, r⟩ := h; exact ⟨a, dx, vs, e, s _ _ t, k, r.same s⟩
  | _ => exact Rep.same s h
/-- an exception's class and its own dict -/
def ExRep (G : Gc) (Z : Addr → Prop) (H : Hp) (e : Ex) (c : Value) (od : Option Addr) : Prop :=
  c = .ref (G.cm e.cls) ∧ ∃ d vs, od = some d ∧ H d = some (.xd (fKeys e.ks vs)) ∧ e.ks.length = vs.length ∧ RepL G Z H e.vs vs
def isOwn (ρ : DEnv) (i : Nat) : Prop := ∃ d, ρ[i]? = some (some (.own d)) ∨ ρ[i]? = some (some (.slf d)) ∨ ρ[i]? = some (some (.gho d))
def Zo (Ze O : Addr → Prop) (a : Addr) : Prop := Ze a ∨ O a
/-- a field of the object under construction -/
def RepG (G : Gc) (Z : Addr → Prop) (α : Nat → Addr) (ρ : DEnv) (H : Hp) (d : D) (v : V) : Prop := match d with
  | .gst j => v = .ref (α j) ∧ ∃ d', ρ[j]? = some (some (.gho d'))
  | d => Rep G Z H d v
def RepGL (G : Gc) (Z : Addr → Prop) (α : Nat → Addr) (ρ : DEnv) (H : Hp) : List D → List V → Prop
  | [], vs => vs = []
  | d :: ds, vs => ∃ v r, vs = v :: r ∧ RepG G Z α ρ H d v ∧ RepGL G Z α ρ H ds r
/-- the context of a def's reading: Ze what may not be leaned on, sa the object under construction, E what is wanted of an exception -/
structure Cy where
  G : Gc
  Ze : Addr → Prop
  sa : Addr
  E : WX
  lv : Nat
  n : Nat
  ca : Bool
  pt : Nat → V
structure SRa (Y : Cy) (O : Addr → Prop) (α : Nat → Addr) (ρ : DEnv) (σ : St) (H : Hp) : Prop where
  len : σ.length = Y.n ∧ Y.n ≤ ρ.length
  val : ∀ (i : Nat) (d : D), ρ[i]? = some (some (Slot.val d)) → ∃ v, σ[i]? = some (some v) ∧ Rep Y.G (Zo Y.Ze O) H d v
  own : ∀ (i : Nat) (d : D), ρ[i]? = some (some (Slot.own d)) → σ[i]? = some (some (.ref (α i))) ∧ ¬ Y.Ze (α i) ∧ RepW Y.G (Zo Y.Ze O) H d (.ref (α i))
  slf : ∀ (i : Nat) (d : D), ρ[i]? = some (some (Slot.slf d)) → σ[i]? = some (some (.ref (α i))) ∧ α i = Y.sa ∧ ∃ c ks l dx vs, d = .obj c ks l ∧ H (α i) = some (.ins (Y.G.cm c) dx (fKeys ks vs)) ∧ (ks.length = vs.length ∧ OkO Y.G c ks) ∧ RepGL Y.G (Zo Y.Ze O) α ρ H l vs
  gho : ∀ (i : Nat) (d : D), ρ[i]? = some (some (Slot.gho d)) → RepW Y.G (Zo Y.Ze O) H d (.ref (α i)) ∧ Y.n ≤ i
  inj : ∀ (i j : Nat), isOwn ρ i → isOwn ρ j → α i = α j → i = j
  oeq : ∀ a, O a ↔ ∃ i, isOwn ρ i ∧ α i = a
  zt : ∀ a, Y.Ze a → H a ≠ none
  ot : ∀ a, O a → H a ≠ none
  ptr : ∀ (i : Nat), ρ[i]? = some (some Slot.ptr) → σ[i]? = some (some (Y.pt i))
def SR (Y : Cy) (O : Addr → Prop) (ρ : DEnv) (σ : St) (H : Hp) : Prop := ∃ α, SRa Y O α ρ σ H
/-- what a step leaves: all but the def's own containers stand; own is what was own or is new -/
def Stp (O : Addr → Prop) (H : Hp) (O' : Addr → Prop) (H' : Hp) : Prop := (∀ a o, ¬ O a → H a = some o → H' a = some o) ∧ ∀ a, O' a → O a ∨ H a = none
theorem Stp.refl {O : Addr → Prop} {H : Hp} : Stp O H O H := ⟨fun _ _ _ h => h, fun _ h => .inl h⟩
theorem Stp.same {O : Addr → Prop} {H H' : Hp} (s : Same H H') : Stp O H O H' := ⟨fun a o _ h => s a o h, fun _ h => .inl h⟩
theorem Stp.trans {O O1 O2 : Addr → Prop} {H H1 H2 : Hp} (a : Stp O H O1 H1) (b : Stp O1 H1 O2 H2) : Stp O H O2 H2 := by
  refine ⟨fun c o n h => b.1 c o (fun q => ?_) (a.1 c o n h), fun c q => ?_⟩
  · rcases a.2 c q with k | k
    · exact n k
    · rw [k] at h; cases h
  · rcases b.2 c q with k | k
    · exact a.2 c k
    · by_cases hn : H c = none
      · exact .inr hn
      · obtain ⟨o, ho⟩ := Option.ne_none_iff_exists'.mp hn
        by_cases hO : O c
        · exact .inl hO
        · rw [a.1 c o hO ho] at k; cases k
section
variable {Y : Cy} {O : Addr → Prop} {ρ : DEnv} {σ : St} {H H' : Hp} {α : Nat → Addr}
theorem RepG.same (s : Same H H') {Z : Addr → Prop} {G : Gc} {d : D} {v : V} (h : RepG G Z α ρ H d v) : RepG G Z α ρ H' d v := by
  cases d with
  | gst j => exact h
  | _ => exact Rep.same s h
theorem RepGL.same (s : Same H H') {Z : Addr → Prop} {G : Gc} : ∀ {ds : List D} {vs : List V}, RepGL G Z α ρ H ds vs → RepGL G Z α ρ H' ds vs
  | [], vs, h => h
  | d :: ds, vs, h => by
    obtain ⟨v, r, e, h1, h2⟩ := h
    exact ⟨v, r, e, RepG.same s h1, RepGL.same s h2⟩
theorem SRa.same (h : SRa Y O α ρ σ H) (s : Same H H') : SRa Y O α ρ σ H' where
  len := h.len
  val := fun i d e => let ⟨v, e1, r⟩ := h.val i d e; ⟨v, e1, r.same s⟩
  own := fun i d e => let ⟨e1, n, r⟩ := h.own i d e; ⟨e1, n, r.same s⟩
  slf := fun i d e => let ⟨e1, n, c, ks, l, dx, vs, e2, e3, e4, r⟩ := h.slf i d e; ⟨e1, n, c, ks, l, dx, vs, e2, s _ _ e3, e4, r.same s⟩
  gho := fun i d e => let ⟨r, k⟩ := h.gho i d e; ⟨r.same s, k⟩
  inj := h.inj
  oeq := h.oeq
  zt := fun a z q => h.zt a z (s.free q)
  ot := fun a z q => h.ot a z (s.free q)
  ptr := h.ptr
theorem SR.same (h : SR Y O ρ σ H) (s : Same H H') : SR Y O ρ σ H' := let ⟨α, h⟩ := h; ⟨α, h.same s⟩
theorem SR.zt (h : SR Y O ρ σ H) : ∀ a, Zo Y.Ze O a → H a ≠ none := fun a z => let ⟨_, h⟩ := h; z.elim (h.zt a) (h.ot a)
end
def EPost (Y : Cy) (O : Addr → Prop) (σ : St) (H : Hp) (Q : VK) : R D → Prop
  | .ok d => ∀ v H', Same H H' → Rep Y.G (Zo Y.Ze O) H' d v → Q v H'
  | .ex e => ∀ c od H', Same H H' → ExRep Y.G (Zo Y.Ze O) H' e c od → Y.E c od σ H'
  | .no => False
def EPostW (Y : Cy) (O : Addr → Prop) (σ : St) (H : Hp) (Q : VK) : R D → Prop
  | .ok d => ∀ v H', Same H H' → RepW Y.G (Zo Y.Ze O) H' d v → Q v H'
  | .ex e => ∀ c od H', Same H H' → ExRep Y.G (Zo Y.Ze O) H' e c od → Y.E c od σ H'
  | .no => False
def APost (Y : Cy) (O : Addr → Prop) (σ : St) (H : Hp) (Q : List V → Hp → Prop) : R (List D) → Prop
  | .ok ds => ∀ vs H', Same H H' → RepL Y.G (Zo Y.Ze O) H' ds vs → Q vs H'
  | .ex e => ∀ c od H', Same H H' → ExRep Y.G (Zo Y.Ze O) H' e c od → Y.E c od σ H'
  | .no => False
def BPost (Y : Cy) (O : Addr → Prop) (σ : St) (H : Hp) (Q : Bool → Hp → Prop) : R Bool → Prop
  | .ok b => ∀ H', Same H H' → Q b H'
  | .ex e => ∀ c od H', Same H H' → ExRep Y.G (Zo Y.Ze O) H' e c od → Y.E c od σ H'
  | .no => False
def tD (Y : Cy) (f : DE) : TE := fun σ H Q => ∃ O ρ, SR Y O ρ σ H ∧ EPost Y O σ H Q (f ρ)
def tDw (Y : Cy) (f : DE) : TE := fun σ H Q => ∃ O ρ, SR Y O ρ σ H ∧ EPostW Y O σ H Q (f ρ)
def tDA (Y : Cy) (f : DA) : TA := fun σ H Q => ∃ O ρ, SR Y O ρ σ H ∧ APost Y O σ H Q (f ρ)
def tDT (Y : Cy) (f : DT) : TT := fun σ H Q => ∃ O ρ, SR Y O ρ σ H ∧ BPost Y O σ H Q (f ρ)
def SPost (Y : Cy) (O : Addr → Prop) (H : Hp) (N : Ends) : R Out → Prop
  | .ok (.nx ρ) => ∀ O' σ' H', Stp O H O' H' → SR Y O' ρ σ' H' → N.nx σ' H'
  | .ok (.bk ρ) => ∀ O' σ' H', Stp O H O' H' → SR Y O' ρ σ' H' → N.bk σ' H'
  | .ok (.ct ρ) => ∀ O' σ' H', Stp O H O' H' → SR Y O' ρ σ' H' → N.ct σ' H'
  | .ok (.rt d ρ) => ∀ O' σ' H' v, Stp O H O' H' → SR Y O' ρ σ' H' → Rep Y.G (Zo Y.Ze O') H' d v → N.rt v H'
  | .ok (.xx e ρ) => ∀ O' σ' H' c od, Stp O H O' H' → SR Y O' ρ σ' H' → ExRep Y.G (Zo Y.Ze O') H' e c od → Y.E c od σ' H'
  | .ex _ => False
  | .no => False
def tDS (Y : Cy) (F : DS) : TS := fun N σ H => ∃ O ρ, SR Y O ρ σ H ∧ SPost Y O H N (F ρ)
structure RoomL (k : Nat) (A : Around) : Prop where
  dp : A.depth + 3 * k + 5 < recursionLimit
  un : A.units + 16 * k + 200 < cLine
theorem Room.lo {k : Nat} {A : Around} (r : Room k A) : RoomL k A := ⟨r.dp, r.un⟩
theorem hu_L {A : Around} {k : Nat} (r : RoomL k A) : A.units + 1 < cLine := by have := r.un; omega
structure Lk (X : Cx) (Y : Cy) : Prop where
  K : X.K = Y.G.K
  ln : X.N.length = Y.n
  tk : Takes X Y.E
  rm : RoomL Y.lv X.A
  hd : Y.ca = true → X.A.handled = none
  nd : X.N.Nodup
  po : PassesOwn (model X.prog X.w) X.A X.env X.xe
  calm : Y.ca = true → X.calm = true
theorem Lk.room {X : Cx} {Y : Cy} (k : Lk X Y) (h : Y.ca = true) : Room Y.lv X.A := ⟨k.hd h, k.rm.dp, k.rm.un⟩
def PD (X : Cx) (Y : Cy) (e : Expr) (f : DE) : Prop := Lk X Y → PE X e (tD Y f)
def PDw (X : Cx) (Y : Cy) (e : Expr) (f : DE) : Prop := Lk X Y → PE X e (tDw Y f)
def PDA (X : Cx) (Y : Cy) (es : List Expr) (f : DA) : Prop := Lk X Y → PA X es (tDA Y f)
def PDT (X : Cx) (Y : Cy) (e : Expr) (f : DT) : Prop := Lk X Y → PT X e (tDT Y f)
def PDTw (X : Cx) (Y : Cy) (e : Expr) (f : DT) : Prop := Lk X Y → PW X e (tDT Y f)
def PDS (X : Cx) (Y : Cy) (st : Stmt) (F : DS) : Prop := Lk X Y → PS X st (tDS Y F)
def PDSs (X : Cx) (Y : Cy) (st : List Stmt) (F : DS) : Prop := Lk X Y → PSs X st (tDS Y F)
theorem impPE {X : Cx} {e : Expr} {t t' : TE} (h : PE X e t) (i : ∀ σ H Q, t' σ H Q → t σ H Q) : PE X e t' := ⟨fun pins s σ H Q I q => h.run pins s σ H Q I (i σ H Q q)⟩
theorem impPT {X : Cx} {e : Expr} {t t' : TT} (h : PT X e t) (i : ∀ σ H Q, t' σ H Q → t σ H Q) : PT X e t' := ⟨fun pins s σ H Q I q => h.run pins s σ H Q I (i σ H Q q)⟩
theorem impPW {X : Cx} {e : Expr} {t t' : TT} (h : PW X e t) (i : ∀ σ H Q, t' σ H Q → t σ H Q) : PW X e t' := ⟨fun w pins s σ H Q I q => h.run w pins s σ H Q I (i σ H Q q)⟩
theorem impPA {X : Cx} {e : List Expr} {t t' : TA} (h : PA X e t) (i : ∀ σ H Q, t' σ H Q → t σ H Q) : PA X e t' := ⟨fun p pins s σ H Q I q => h.run p pins s σ H Q I (i σ H Q q)⟩
theorem impPS {X : Cx} {e : Stmt} {t t' : TS} (h : PS X e t) (i : ∀ N σ H, t' N σ H → t N σ H) : PS X e t' := ⟨fun pins s σ H N I q => h.run pins s σ H N I (i N σ H q)⟩
theorem impPSs {X : Cx} {e : List Stmt} {t t' : TS} (h : PSs X e t) (i : ∀ N σ H, t' N σ H → t N σ H) : PSs X e t' := ⟨fun pins s σ H N I q => h.run pins s σ H N I (i N σ H q)⟩
theorem EPost.w {Y : Cy} {O : Addr → Prop} {σ : St} {H : Hp} {Q : VK} {r : R D} (h : EPostW Y O σ H Q r) : EPost Y O σ H Q r := by
  cases r with
  | ok d => exact fun v H' s q => h v H' s q.w
  | ex e => exact h
  | no => exact h
theorem PD.w {X : Cx} {Y : Cy} {e : Expr} {f : DE} (h : PD X Y e f) : PDw X Y e f := fun k => impPE (h k) fun σ H Q ⟨O, ρ, s, q⟩ => ⟨O, ρ, s, EPost.w q⟩
end Tw

set_option maxHeartbeats 2000000
namespace Tw
open PySem PySem.Spec L2
open PyProof.Rows hiding St
/-- what is wanted of an operation's answer -/
def OPost (G : Gc) (Z : Addr → Prop) (H : Hp) (Q : VK) : Option D → Prop
  | some d => ∀ v H', Same H H' → Rep G Z H' d v → Q v H'
  | none => False
def Op2 (G : Gc) (r : R2) (g : D → D → Option D) : Prop := ∀ (Z : Addr → Prop) (H : Hp) (x y : V) (dx dy : D) (Q : VK), (∀ a, Z a → H a ≠ none) → RepW G Z H dx x → RepW G Z H dy y → OPost G Z H Q (g dx dy) → r x y H Q
def Op1 (G : Gc) (r : V → Hp → VK → Prop) (g : D → Option D) : Prop := ∀ (Z : Addr → Prop) (H : Hp) (x : V) (dx : D) (Q : VK), (∀ a, Z a → H a ≠ none) → RepW G Z H dx x → OPost G Z H Q (g dx) → r x H Q
section
variable {X : Cx} {Y : Cy} {a b c : Expr} {fa fb fc : DE} {pos : Pos}
theorem ex_fwd {Y : Cy} {O : Addr → Prop} {σ : L2.St} {H H1 : Hp} {e : Ex} (s : Same H H1) (h : ∀ c od H', Same H H' → ExRep Y.G (Zo Y.Ze O) H' e c od → Y.E c od σ H') :
    ∀ c od H', Same H1 H' → ExRep Y.G (Zo Y.Ze O) H' e c od → Y.E c od σ H' := fun c od H' s' => h c od H' (s.trans s')
/-- two operands, an operation -/
theorem bin_imp {r : R2} {g : D → D → Option D} (ho : Op2 Y.G r g) (σ : L2.St) (H : Hp) (Q : VK) (h : tD Y (e2 g fa fb) σ H Q) : tOp r (tDw Y fa) (tDw Y fb) σ H Q := by
  obtain ⟨O, ρ, s, q⟩ := h
  refine ⟨O, ρ, s, ?_⟩
  unfold e2 at q
  cases ea : fa ρ with
  | ex e => rw [ea] at q; exact q
  | no => rw [ea] at q; exact q
  | ok dx =>
    rw [ea] at q
    intro x H1 s1 rx
    refine ⟨O, ρ, s.same s1, ?_⟩
    simp only [R.bind_ok] at q
    cases eb : fb ρ with
    | ex e => rw [eb] at q; exact ex_fwd s1 q
    | no => rw [eb] at q; exact q
    | ok dy =>
      rw [eb] at q
      simp only [R.bind_ok] at q
      intro y H2 s2 ry
      refine ho _ H2 x y dx dy Q ((s.same (s1.trans s2)).zt) (rx.same s2) ry ?_
      cases eg : g dx dy with
      | none => rw [eg] at q; exact q
      | some d => rw [eg] at q; exact fun v H3 s3 rv => q v H3 (s1.trans (s2.trans s3)) rv
theorem un_imp {r : V → Hp → VK → Prop} {g : D → Option D} (ho : Op1 Y.G r g) (σ : L2.St) (H : Hp) (Q : VK) (h : tD Y (e1 g fa) σ H Q) : tDw Y fa σ H (fun x H1 => r x H1 Q) := by
  obtain ⟨O, ρ, s, q⟩ := h
  refine ⟨O, ρ, s, ?_⟩
  unfold e1 at q
  cases ea : fa ρ with
  | ex e => rw [ea] at q; exact q
  | no => rw [ea] at q; exact q
  | ok dx =>
    rw [ea] at q
    intro x H1 s1 rx
    refine ho _ H1 x dx Q ((s.same s1).zt) rx ?_
    simp only [R.bind_ok] at q
    cases eg : g dx with
    | none => rw [eg] at q; exact q
    | some d => rw [eg] at q; exact fun v H3 s3 rv => q v H3 (s1.trans s3) rv
theorem pd_op {op : Operator} {r : R2} {g : D → D → Option D} (hr : Lk X Y → OpR X (binaryOp op) r) (ho : X.K = Y.G.K → Op2 Y.G r g) (ha : PDw X Y a fa) (hb : PDw X Y b fb) : PD X Y (.BinOp a op b pos) (e2 g fa fb) :=
  fun k => impPE (pe_op (hr k) (ha k) (hb k)) (bin_imp (ho k.K))
theorem pd_cmp {op : CmpOp} {r : R2} {g : D → D → Option D} (hr : Lk X Y → OpR X (compareOp op) r) (ho : X.K = Y.G.K → Op2 Y.G r g) (ha : PDw X Y a fa) (hb : PDw X Y b fb) (hm : behindInMarks op b = false) : PD X Y (.Compare a [op] [b] pos) (e2 g fa fb) :=
  fun k => impPE (pe_cmpR (hr k) (ha k) (hb k) hm) (bin_imp (ho k.K))
theorem pd_un {op : UnaryOp} {r : V → Hp → VK → Prop} {g : D → Option D} (hr : Lk X Y → UnR X (unaryOp op) r) (ho : X.K = Y.G.K → Op1 Y.G r g) (ha : PDw X Y a fa) : PD X Y (.UnaryOp op a pos) (e1 g fa) :=
  fun k => impPE (pe_un (hr k) (ha k)) (un_imp (ho k.K))
theorem pd_var (i : Nat) {x : Str} (hN : X.N[i]? = some x := by rfl) (hv : Vis X.env.scope x := by first | exact Or.inl rfl | exact Or.inr (Or.inl rfl) | exact Or.inr (Or.inr rfl)) (hd : (x == ("__debug__" : Str)) = false := by decide)
    (hcd : (x == ("__classdict__" : Str)) = false := by decide) : PD X Y (.Name x pos) (eVar i) := fun k => impPE (pe_var hN hv hd hcd) fun σ H Q ⟨O, ρ, ⟨α, s⟩, q⟩ => by
  unfold eVar at q
  split at q
  · rename_i d e
    obtain ⟨v, e1, r⟩ := s.val i d e
    exact ⟨v, e1, q v H (Same.refl H) r⟩
  · exact q.elim
theorem pd_look (i : Nat) {x : Str} (hN : X.N[i]? = some x := by rfl) (hv : Vis X.env.scope x := by first | exact Or.inl rfl | exact Or.inr (Or.inl rfl) | exact Or.inr (Or.inr rfl)) (hd : (x == ("__debug__" : Str)) = false := by decide)
    (hcd : (x == ("__classdict__" : Str)) = false := by decide) : PDw X Y (.Name x pos) (eLook i) := fun k => impPE (pe_var hN hv hd hcd) fun σ H Q ⟨O, ρ, ⟨α, s⟩, q⟩ => by
  unfold eLook at q
  split at q
  · rename_i d e
    obtain ⟨v, e1, r⟩ := s.val i d e
    exact ⟨v, e1, q v H (Same.refl H) r.w⟩
  · rename_i d e
    obtain ⟨e1, _, r⟩ := s.own i d e
    exact ⟨_, e1, q _ H (Same.refl H) r⟩
  · exact q.elim
theorem pd_const {t : TE} {d : D} {v : V} (h : PE X a t) (ht : t = tC v) (hv : ∀ Z H, Rep Y.G Z H d v) : PD X Y a (eC d) := fun k => impPE h fun σ H Q ⟨O, ρ, s, q⟩ => by
  subst ht
  exact q v H (Same.refl H) (hv _ _)
theorem pd_int {i : Int} {j : Nat} : PD X Y (.Constant (.int i) j pos) (eC (.int i)) := pd_const pe_int rfl fun _ _ => rfl
theorem pd_bl {i : Bool} {j : Nat} : PD X Y (.Constant (.bool i) j pos) (eC (.bl i)) := pd_const pe_bl rfl fun _ _ => rfl
theorem pd_str {x : Str} {j : Nat} : PD X Y (.Constant (.str x) j pos) (eC (.str x)) := pd_const pe_str rfl fun _ _ => rfl
theorem pd_glob {x : Str} {u : Value} {d : D} {v : V} (hg : Gl X x) (hm : X.mg x = some u) (r : RelV v u) (hv : ∀ Z H, Rep Y.G Z H d v) (hd : (x == ("__debug__" : Str)) = false := by decide) : PD X Y (.Name x pos) (eC d) := pd_const (pe_glob hg hm r hd) rfl hv
theorem same_new {H : Hp} {n : Addr} {o : HO} (hn : H n = none) : Same H (upd H n o) := fun b u e => by rw [upd_ne (ne_of_none e hn)]; exact e
theorem lineD_eq : (sizeLine : Nat) = lineD := sizeLine_eq
theorem isEmpty_len {α β : Type} {xs : List α} {ys : List β} (h : xs.length = ys.length) : xs.isEmpty = ys.isEmpty := by
  cases xs <;> cases ys <;> simp_all
theorem rep_tup {G : Gc} {Z : Addr → Prop} {H : Hp} {l : List D} {v : V} (h : Rep G Z H (.tup l) v) : ∃ a vs, v = .ref a ∧ SqT G.K H a vs ∧ RepL G Z H l vs := by
  obtain ⟨a, vs, e, t, r⟩ := h
  rcases t with ⟨_, t⟩ | t
  · exact ⟨a, vs, e, .inl (.inl t), r⟩
  · exact ⟨a, vs, e, .inr t, r⟩
theorem rep_scr {G : Gc} {Z : Addr → Prop} {H : Hp} {l : List Int} {v : V} (h : Rep G Z H (.scr l) v) : ∃ a, v = .ref a ∧ SqL G.K H a (l.map V.int) := by
  obtain ⟨a, e, t⟩ := h
  rcases t with ⟨_, t⟩ | t
  · exact ⟨a, e, .inl t⟩
  · exact ⟨a, e, .inr t⟩
theorem RepL.nil_iff {G : Gc} {Z : Addr → Prop} {H : Hp} {l : List D} {vs : List V} (h : RepL G Z H l vs) : vs = [] ↔ l = [] := by
  have := h.length
  cases l <;> cases vs <;> simp_all
def rAddD (K : PySem.W.Frag) : R2 := fun x y H Q => (rI0 fun i j => V.int (i + j)) x y H Q ∨ ((∃ i j, x = V.str i ∧ y = V.str j ∧ i.length + j.length ≤ sizeLine ∧ Q (.str (i ++ j)) H) ∨ (rCat x y H Q ∨ rCatA K x y H Q))
theorem op_addD : OpR X (binaryOp .Add) (rAddD X.K) := op_add.or (op_add_str.or (op_cat.or op_catA))
theorem o2_add (G : Gc) : Op2 G (rAddD G.K) oAdd := by
  intro Z H x y dx dy Q zt rx ry h
  unfold oAdd at h
  split at h
  · rename_i i j
    exact .inl ⟨i, j, rx, ry, h _ H (Same.refl H) rfl⟩
  · rename_i i j
    split at h
    · rename_i hl
      exact .inr (.inl ⟨i, j, rx, ry, by rw [lineD_eq]; exact hl, h _ H (Same.refl H) rfl⟩)
    · exact h.elim
  · rename_i l m
    split at h
    · rename_i hl
      obtain ⟨p, vs, rfl, hp, r1⟩ := rx
      obtain ⟨q, us, rfl, hq, r2⟩ := ry
      refine .inr (.inr (.inl ⟨p, q, vs, us, rfl, rfl, hp, hq, by rw [lineD_eq, ← r1.length, ← r2.length]; exact hl, fun n hn => ?_⟩))
      exact h _ _ (same_new hn) ⟨n, _, rfl, fun z => zt n z hn, upd_same, (r1.append r2).same (same_new hn)⟩
    · exact h.elim
  · rename_i l m
    split at h
    · rename_i hl
      obtain ⟨p, vs, rfl, hp, r1⟩ := rep_tup rx
      obtain ⟨q, us, rfl, hq, r2⟩ := rep_tup ry
      refine .inr (.inr (.inr ⟨p, q, vs, us, rfl, rfl, hp, hq, by rw [lineD_eq, ← r1.length, ← r2.length]; exact hl, fun e => ?_, fun _ e => ?_, fun _ _ n hn => ?_⟩))
      · rw [r1.nil_iff.mp e] at h
        exact h _ H (Same.refl H) (show Rep G Z H (.tup ([] ++ m)) _ from ry)
      · rw [r2.nil_iff.mp e, List.append_nil] at h
        exact h _ H (Same.refl H) rx
      · exact h _ _ (same_new hn) ⟨n, _, rfl, .inl ⟨fun z => zt n z hn, upd_same⟩, (r1.append r2).same (same_new hn)⟩
    · exact h.elim
  · exact h.elim
theorem pd_add (ha : PDw X Y a fa) (hb : PDw X Y b fb) : PD X Y (.BinOp a .Add b pos) (e2 oAdd fa fb) := pd_op (fun _ => op_addD) (fun k => by rw [k]; exact o2_add _) ha hb
def rSubI : R2 := rI0 fun i j => V.int (i - j)
theorem op_subI : OpR X (binaryOp .Sub) rSubI := op_sub
theorem o2_sub (G : Gc) : Op2 G rSubI oSub := by
  intro Z H x y dx dy Q zt rx ry h
  unfold oSub at h
  split at h
  · rename_i i j
    exact ⟨i, j, rx, ry, h _ H (Same.refl H) rfl⟩
  · exact h.elim
theorem pd_sub (ha : PDw X Y a fa) (hb : PDw X Y b fb) : PD X Y (.BinOp a .Sub b pos) (e2 oSub fa fb) := pd_op (fun _ => op_subI) (fun _ => o2_sub _) ha hb
def rFdivI : R2 := rI CDiv fun i j => V.int (i / j)
theorem o2_fdiv (G : Gc) : Op2 G rFdivI oFdiv := by
  intro Z H x y dx dy Q zt rx ry h
  unfold oFdiv at h
  split at h
  · rename_i i j
    split at h
    · rename_i hc
      exact ⟨i, j, rx, ry, hc, h _ H (Same.refl H) rfl⟩
    · exact h.elim
  · exact h.elim
theorem pd_fdiv (ha : PDw X Y a fa) (hb : PDw X Y b fb) : PD X Y (.BinOp a .FloorDiv b pos) (e2 oFdiv fa fb) := pd_op (r := rFdivI) (fun _ => op_fdiv) (fun _ => o2_fdiv _) ha hb
def rModI : R2 := rI (fun _ j => 0 < j) fun i j => V.int (i % j)
theorem o2_mod (G : Gc) : Op2 G rModI oMod := by
  intro Z H x y dx dy Q zt rx ry h
  unfold oMod at h
  split at h
  · rename_i i j
    split at h
    · rename_i hc
      exact ⟨i, j, rx, ry, hc, h _ H (Same.refl H) rfl⟩
    · exact h.elim
  · exact h.elim
theorem pd_mod (ha : PDw X Y a fa) (hb : PDw X Y b fb) : PD X Y (.BinOp a .Mod b pos) (e2 oMod fa fb) := pd_op (r := rModI) (fun _ => op_mod) (fun _ => o2_mod _) ha hb
def rPowI : R2 := rI CPow fun i j => V.int (i ^ j.toNat)
theorem o2_pow (G : Gc) : Op2 G rPowI oPow := by
  intro Z H x y dx dy Q zt rx ry h
  unfold oPow at h
  split at h
  · rename_i i j
    split at h
    · rename_i hc
      exact ⟨i, j, rx, ry, hc, h _ H (Same.refl H) rfl⟩
    · exact h.elim
  · exact h.elim
theorem pd_pow (ha : PDw X Y a fa) (hb : PDw X Y b fb) : PD X Y (.BinOp a .Pow b pos) (e2 oPow fa fb) := pd_op (r := rPowI) (fun _ => op_pow) (fun _ => o2_pow _) ha hb
theorem o2_lt (G : Gc) : Op2 G (rI0 fun i j => V.bl (decide (i < j))) oLt := by
  intro Z H x y dx dy Q zt rx ry h
  unfold oLt at h
  split at h
  · rename_i i j
    exact ⟨i, j, rx, ry, h _ H (Same.refl H) rfl⟩
  · exact h.elim
theorem o2_gt (G : Gc) : Op2 G (rI0 fun i j => V.bl (decide (j < i))) oGt := by
  intro Z H x y dx dy Q zt rx ry h
  unfold oGt at h
  split at h
  · rename_i i j
    exact ⟨i, j, rx, ry, h _ H (Same.refl H) rfl⟩
  · exact h.elim
theorem o2_ge (G : Gc) : Op2 G (rI0 fun i j => V.bl (decide (j ≤ i))) oGe := by
  intro Z H x y dx dy Q zt rx ry h
  unfold oGe at h
  split at h
  · rename_i i j
    exact ⟨i, j, rx, ry, h _ H (Same.refl H) rfl⟩
  · exact h.elim
theorem RepL.rep {G : Gc} {Z : Addr → Prop} {H : Hp} {l : List D} {vs : List V} (h : RepL G Z H l vs) : ∀ n : Nat, RepL G Z H (List.replicate n l).flatten (List.replicate n vs).flatten
  | 0 => RepL.nil
  | n + 1 => by
    rw [List.replicate_succ, List.replicate_succ, List.flatten_cons, List.flatten_cons]
    exact h.append (RepL.rep h n)
def rMulS : R2 := fun x y H Q => ∃ (s : Str) (k : Int), x = .str s ∧ y = .int k ∧ 0 ≤ k ∧ k ≤ 1 ∧ Q (.str (repS s k.toNat)) H
theorem op_mul_str1 : OpR X (binaryOp .Mult) rMulS := by
  intro pins s σ H x y v u Q I rx ry h
  obtain ⟨z, k, rfl, rfl, h0, h1, q⟩ := h
  obtain ⟨t, rfl⟩ := rx
  obtain ⟨t', rfl⟩ := ry
  have hk : k = 0 ∨ k = 1 := by omega
  refine PySem.SB.mul (x := z) (n := k) ⟨?_, fun a b => ?_, fun a b => ?_⟩ fun t2 k2 => ⟨.str _, H, I.tok _, ⟨t2, ?_⟩, q⟩
  · rcases hk with rfl | rfl <;> decide
  · rcases hk with rfl | rfl
    · exact absurd (by decide) a
    · simp at b
  · rcases hk with rfl | rfl
    · exact absurd (by decide) a
    · simp at b
  · rcases hk with rfl | rfl
    · rfl
    · have e1 : repS z (1 : Int).toNat = z := by
        show z ++ Str.empty = z
        obtain ⟨c⟩ := z
        show (⟨c ++ #[]⟩ : Str) = ⟨c⟩
        simp
      rw [e1]
      rfl
def rMulD : R2 := fun x y H Q => (rI CMul fun i j => V.int (i * j)) x y H Q ∨ (rRep x y H Q ∨ rMulS x y H Q)
theorem op_mulD : OpR X (binaryOp .Mult) rMulD := op_mul.or (op_rep.or op_mul_str1)
theorem o2_mul (G : Gc) : Op2 G rMulD oMul := by
  intro Z H x y dx dy Q zt rx ry h
  unfold oMul at h
  split at h
  · rename_i i j
    split at h
    · rename_i hc
      exact .inl ⟨i, j, rx, ry, hc, h _ H (Same.refl H) rfl⟩
    · exact h.elim
  · rename_i l k
    split at h
    · rename_i hc
      obtain ⟨p, vs, rfl, hp, r1⟩ := rx
      refine .inr (.inl ⟨p, k, vs, rfl, ry, hp, hc.1, hc.2.1, by rw [lineD_eq, ← r1.length]; exact hc.2.2, fun n hn => ?_⟩)
      exact h _ _ (same_new hn) ⟨n, _, rfl, fun z => zt n z hn, upd_same, (r1.rep _).same (same_new hn)⟩
    · exact h.elim
  · rename_i z k
    split at h
    · rename_i hc
      exact .inr (.inr ⟨z, k, rx, ry, hc.1, hc.2, h _ H (Same.refl H) rfl⟩)
    · exact h.elim
  · exact h.elim
theorem pd_mul (ha : PDw X Y a fa) (hb : PDw X Y b fb) : PD X Y (.BinOp a .Mult b pos) (e2 oMul fa fb) := pd_op (fun _ => op_mulD) (fun _ => o2_mul _) ha hb
end
mutual
def toPy : D → PyData
  | .bl b => .bool b
  | .int i => .int i
  | .str s => .str s
  | .lst l => .list (toPyL l)
  | .tup l => .tuple (toPyL l)
  | _ => .none
def toPyL : List D → List PyData
  | [] => []
  | d :: ds => toPy d :: toPyL ds
end
mutual
theorem deq_py : ∀ (k j : Nat) (d e : D), shp k d = true → shp j e = true → deq d e = PyData.eqv (toPy d) (toPy e)
  | k, j, .lst l, .lst m, h1, h2 => by
    cases k with
    | zero => simp [shp] at h1
    | succ k =>
      cases j with
      | zero => simp [shp] at h2
      | succ j =>
        simp only [deq, toPy, PyData.eqv]
        exact deqL_py k j l m (by simpa [shp] using h1) (by simpa [shp] using h2)
  | k, j, .tup l, .tup m, h1, h2 => by
    cases k with
    | zero => simp [shp] at h1
    | succ k =>
      cases j with
      | zero => simp [shp] at h2
      | succ j =>
        simp only [deq, toPy, PyData.eqv]
        exact deqL_py k j l m (by simpa [shp] using h1) (by simpa [shp] using h2)
  | k, j, .non, e, h1, h2 => by cases e <;> first | (exfalso; cases j <;> simp [shp] at h2; done) | simp [deq, toPy, PyData.eqv]
  | k, j, .bl b, e, h1, h2 => by cases e <;> first | (exfalso; cases j <;> simp [shp] at h2; done) | simp [deq, toPy, PyData.eqv]
  | k, j, .int i, e, h1, h2 => by cases e <;> first | (exfalso; cases j <;> simp [shp] at h2; done) | simp [deq, toPy, PyData.eqv]
  | k, j, .str i, e, h1, h2 => by cases e <;> first | (exfalso; cases j <;> simp [shp] at h2; done) | simp [deq, toPy, PyData.eqv]
  | k, j, .cls n, e, h1, h2 => by cases k <;> simp [shp] at h1
  | k, j, .scr n, e, h1, h2 => by cases k <;> simp [shp] at h1
  | k, j, .gst n, e, h1, h2 => by cases k <;> simp [shp] at h1
  | k, j, .dct n m, e, h1, h2 => by cases k <;> simp [shp] at h1
  | k, j, .obj n m o, e, h1, h2 => by cases k <;> simp [shp] at h1
  | k, j, .lst l, .non, h1, h2 => by simp [deq, toPy, PyData.eqv]
  | k, j, .lst l, .bl _, h1, h2 => by simp [deq, toPy, PyData.eqv]
  | k, j, .lst l, .int _, h1, h2 => by simp [deq, toPy, PyData.eqv]
  | k, j, .lst l, .str _, h1, h2 => by simp [deq, toPy, PyData.eqv]
  | k, j, .lst l, .tup _, h1, h2 => by simp [deq, toPy, PyData.eqv]
  | k, j, .lst l, .cls _, h1, h2 => by cases j <;> simp [shp] at h2
  | k, j, .lst l, .scr _, h1, h2 => by cases j <;> simp [shp] at h2
  | k, j, .lst l, .gst _, h1, h2 => by cases j <;> simp [shp] at h2
  | k, j, .lst l, .dct _ _, h1, h2 => by cases j <;> simp [shp] at h2
  | k, j, .lst l, .obj _ _ _, h1, h2 => by cases j <;> simp [shp] at h2
  | k, j, .tup l, .non, h1, h2 => by simp [deq, toPy, PyData.eqv]
  | k, j, .tup l, .bl _, h1, h2 => by simp [deq, toPy, PyData.eqv]
  | k, j, .tup l, .int _, h1, h2 => by simp [deq, toPy, PyData.eqv]
  | k, j, .tup l, .str _, h1, h2 => by simp [deq, toPy, PyData.eqv]
  | k, j, .tup l, .lst _, h1, h2 => by simp [deq, toPy, PyData.eqv]
  | k, j, .tup l, .cls _, h1, h2 => by cases j <;> simp [shp] at h2
  | k, j, .tup l, .scr _, h1, h2 => by cases j <;> simp [shp] at h2
  | k, j, .tup l, .gst _, h1, h2 => by cases j <;> simp [shp] at h2
  | k, j, .tup l, .dct _ _, h1, h2 => by cases j <;> simp [shp] at h2
  | k, j, .tup l, .obj _ _ _, h1, h2 => by cases j <;> simp [shp] at h2
theorem deqL_py : ∀ (k j : Nat) (d e : List D), (∀ x ∈ d, shp k x = true) → (∀ x ∈ e, shp j x = true) → deqL d e = PyData.eqvAll (toPyL d) (toPyL e)
  | k, j, [], [], h1, h2 => by simp [deqL, toPyL, PyData.eqvAll]
  | k, j, [], y :: e, h1, h2 => by simp [deqL, toPyL, PyData.eqvAll]
  | k, j, x :: d, [], h1, h2 => by simp [deqL, toPyL, PyData.eqvAll]
  | k, j, x :: d, y :: e, h1, h2 => by
    simp only [deqL, toPyL, PyData.eqvAll]
    rw [deq_py k j x y (h1 x List.mem_cons_self) (h2 y List.mem_cons_self), deqL_py k j d e (fun z hz => h1 z (List.mem_cons_of_mem _ hz)) (fun z hz => h2 z (List.mem_cons_of_mem _ hz))]
end
mutual
theorem py_lay : ∀ (k : Nat) (d : D), shp k d = true → (toPy d).canLay0 = true ∧ (toPy d).depth ≤ k
  | k, .lst l, h1 => by
    cases k with
    | zero => simp [shp] at h1
    | succ k =>
      obtain ⟨a, b⟩ := pyL_lay k l (by simpa [shp] using h1)
      simp only [toPy, PyData.canLay0, PyData.depth]
      exact ⟨a, by omega⟩
  | k, .tup l, h1 => by
    cases k with
    | zero => simp [shp] at h1
    | succ k =>
      obtain ⟨a, b⟩ := pyL_lay k l (by simpa [shp] using h1)
      simp only [toPy, PyData.canLay0, PyData.depth]
      exact ⟨a, by omega⟩
  | k, .non, h1 => by simp [toPy, PyData.canLay0, PyData.depth]
  | k, .bl b, h1 => by simp [toPy, PyData.canLay0, PyData.depth]
  | k, .int b, h1 => by simp [toPy, PyData.canLay0, PyData.depth]
  | k, .str b, h1 => by
    refine ⟨?_, by simp [toPy, PyData.depth]⟩
    have : strOkD b = true := by cases k <;> simpa [shp] using h1
    simp only [toPy, PyData.canLay0]
    exact this
  | k, .cls n, h1 => by cases k <;> simp [shp] at h1
  | k, .scr n, h1 => by cases k <;> simp [shp] at h1
  | k, .gst n, h1 => by cases k <;> simp [shp] at h1
  | k, .dct n m, h1 => by cases k <;> simp [shp] at h1
  | k, .obj n m o, h1 => by cases k <;> simp [shp] at h1
theorem pyL_lay : ∀ (k : Nat) (d : List D), (∀ x ∈ d, shp k x = true) → PyData.canLayAll0 (toPyL d) = true ∧ PyData.depthAll (toPyL d) ≤ k
  | k, [], h => by simp [toPyL, PyData.canLayAll0, PyData.depthAll]
  | k, x :: d, h => by
    obtain ⟨a, b⟩ := py_lay k x (h x List.mem_cons_self)
    obtain ⟨a2, b2⟩ := pyL_lay k d fun z hz => h z (List.mem_cons_of_mem _ hz)
    simp only [toPyL, PyData.canLayAll0, PyData.depthAll, a, a2]
    exact ⟨rfl, by omega⟩
end
mutual
theorem rep_dp {G : Gc} {Z : Addr → Prop} {H : Hp} : ∀ (k : Nat) (d : D) (v : V), shp k d = true → Rep G Z H d v → Dp G.K H v (toPy d)
  | k, .lst l, v, h1, r => by
    cases k with
    | zero => simp [shp] at h1
    | succ k =>
      obtain ⟨a, vs, rfl, _, e, r⟩ := r
      exact .lst (SqL.of e) (repL_dp k l vs (by simpa [shp] using h1) r)
  | k, .tup l, v, h1, r => by
    cases k with
    | zero => simp [shp] at h1
    | succ k =>
      obtain ⟨a, vs, rfl, e, r⟩ := rep_tup r
      exact .tup e (repL_dp k l vs (by simpa [shp] using h1) r)
  | k, .non, v, h1, r => by obtain rfl : v = .non := r; exact .non
  | k, .bl b, v, h1, r => by obtain rfl : v = .bl b := r; exact .bl b
  | k, .int b, v, h1, r => by obtain rfl : v = .int b := r; exact .int b
  | k, .str b, v, h1, r => by obtain rfl : v = .str b := r; exact .str b
  | k, .cls n, v, h1, r => by cases k <;> simp [shp] at h1
  | k, .scr n, v, h1, r => by cases k <;> simp [shp] at h1
  | k, .gst n, v, h1, r => by cases k <;> simp [shp] at h1
  | k, .dct n m, v, h1, r => by cases k <;> simp [shp] at h1
  | k, .obj n m o, v, h1, r => by cases k <;> simp [shp] at h1
theorem repL_dp {G : Gc} {Z : Addr → Prop} {H : Hp} : ∀ (k : Nat) (d : List D) (v : List V), (∀ x ∈ d, shp k x = true) → RepL G Z H d v → DpAll G.K H v (toPyL d)
  | k, [], v, h, r => by obtain rfl : v = [] := r; exact .nil
  | k, x :: d, v, h, r => by
    obtain ⟨u, w, rfl, r1, r2⟩ := r
    exact .cons (rep_dp k x u (h x List.mem_cons_self) r1) (repL_dp k d w (fun z hz => h z (List.mem_cons_of_mem _ hz)) r2)
end
theorem repw_dp {G : Gc} {Z : Addr → Prop} {H : Hp} {k : Nat} {d : D} {v : V} (h1 : shp k d = true) (r : RepW G Z H d v) : Dp G.K H v (toPy d) := by
  cases d with
  | lst l =>
    cases k with
    | zero => simp [shp] at h1
    | succ k =>
      obtain ⟨a, vs, rfl, e, r⟩ := r
      exact .lst (SqL.of e) (repL_dp k l vs (by simpa [shp] using h1) r)
  | dct a b => cases k <;> simp [shp] at h1
  | obj a b c => cases k <;> simp [shp] at h1
  | _ => exact rep_dp (Z := Z) k _ v h1 r
theorem shaped_py {k : Nat} {d : D} (h : shp k d = true) (hk : k ≤ 64) : SeqAt.shaped (toPy d) = true := by
  obtain ⟨a, b⟩ := py_lay k d h
  unfold SeqAt.shaped
  rw [a, decide_eq_true (Nat.le_trans b hk)]
  rfl
/-- scalars compare as data do -/
theorem scal_of {G : Gc} {Z : Addr → Prop} {H : Hp} {d e : D} {x y : V} (r1 : RepW G Z H d x) (r2 : RepW G Z H e y) (h : scalD d e = true) : scal x y = true ∧ decide (x = y) = deq d e := by
  cases d <;> cases e <;> simp only [scalD, Bool.false_eq_true] at h <;>
    (obtain rfl : x = _ := r1; obtain rfl : y = _ := r2; refine ⟨rfl, ?_⟩; simp only [deq]) <;> first
    | rfl
    | simp
  all_goals (first | (rename_i a b; by_cases q : a = b <;> simp [q]) | skip)
section
variable {X : Cx} {Y : Cy} {a b c : Expr} {fa fb fc : DE} {pos : Pos}
def rEqA (K : PySem.W.Frag) : R2 := fun x y H Q => rEq x y H Q ∨ rEqD K x y H Q
def rNeA (K : PySem.W.Frag) : R2 := fun x y H Q => rNe x y H Q ∨ rNeD K x y H Q
theorem o2_eq (G : Gc) : Op2 G (rEqA G.K) oEq := by
  intro Z H x y dx dy Q zt rx ry h
  unfold oEq eqD at h
  split at h
  · rename_i hs
    obtain ⟨h1, h2⟩ := scal_of rx ry hs
    exact .inl ⟨h1, by rw [h2]; exact h _ H (Same.refl H) rfl⟩
  · split at h
    · rename_i hs
      obtain ⟨h1, h2⟩ := Bool.and_eq_true_iff.mp hs
      refine .inr ⟨_, _, repw_dp h1 rx, repw_dp h2 ry, shaped_py h1 (by decide), shaped_py h2 (by decide), ?_⟩
      rw [← deq_py 60 60 dx dy h1 h2]
      exact h _ H (Same.refl H) rfl
    · exact h.elim
theorem o2_ne (G : Gc) : Op2 G (rNeA G.K) oNe := by
  intro Z H x y dx dy Q zt rx ry h
  unfold oNe eqD at h
  split at h
  · rename_i hs
    obtain ⟨h1, h2⟩ := scal_of rx ry hs
    exact .inl ⟨h1, by rw [h2]; exact h _ H (Same.refl H) rfl⟩
  · split at h
    · rename_i hs
      obtain ⟨h1, h2⟩ := Bool.and_eq_true_iff.mp hs
      refine .inr ⟨_, _, repw_dp h1 rx, repw_dp h2 ry, shaped_py h1 (by decide), shaped_py h2 (by decide), ?_⟩
      rw [← deq_py 60 60 dx dy h1 h2]
      exact h _ H (Same.refl H) rfl
    · exact h.elim
theorem hu65 {A : Around} {k : Nat} (r : RoomL k A) : A.units + 65 < cLine := by have := r.un; omega
theorem hu64 {A : Around} {k : Nat} (r : RoomL k A) : A.units + 64 < cLine := by have := r.un; omega
theorem pd_eq (ha : PDw X Y a fa) (hb : PDw X Y b fb) : PD X Y (.Compare a [.Eq] [b] pos) (e2 oEq fa fb) :=
  pd_cmp (r := rEqA X.K) (fun k => op_eq.or (op_eqD (hu64 k.rm))) (fun k => by rw [k]; exact o2_eq _) ha hb (nomark _)
end
end Tw

set_option maxHeartbeats 2000000
namespace Tw
open PySem PySem.Spec L2
open PyProof.Rows hiding St
theorem look_val {G : Gc} {Z : Addr → Prop} {H : Hp} : ∀ {ks : List Str} {l : List D} {vs : List V} (x : Str), ks.length = vs.length → RepL G Z H l vs →
    match lookD ks l x with
    | some d => ∃ v, valV (sKeys ks vs) (Sum.inr x : Key) = some v ∧ Rep G Z H d v
    | none => valV (sKeys ks vs) (Sum.inr x : Key) = none
  | [], l, vs, x, e, r => by cases l <;> cases vs <;> simp_all [lookD, sKeys, valV]
  | k :: ks, l, [], x, e, r => by simp at e
  | k :: ks, [], v :: vs, x, e, r => by cases (show (v :: vs) = [] from r)
  | k :: ks, d :: l, v :: vs, x, e, r => by
    obtain ⟨v', r', e', r1, r2⟩ := r
    cases e'
    have ih := look_val (ks := ks) (l := l) (vs := vs) x (by simpa using e) r2
    by_cases q : x = k
    · subst q
      simp only [lookD, if_pos rfl, sKeys]
      exact ⟨v, valV_pos rfl, r1⟩
    · have q' : ¬ (Sum.inr k : Key) = Sum.inr x := fun z => q (Sum.inr.inj z).symm
      simp only [lookD, if_neg q, sKeys]
      rw [valV_neg q']
      exact ih
theorem look_fld {G : Gc} {Z : Addr → Prop} {H : Hp} : ∀ {ks : List Str} {l : List D} {vs : List V} (x : Str), ks.length = vs.length → RepL G Z H l vs →
    match lookD ks l x with
    | some d => ∃ v, (fKeys ks vs).lookup x = some v ∧ Rep G Z H d v
    | none => (fKeys ks vs).lookup x = none
  | [], l, vs, x, e, r => by cases l <;> cases vs <;> simp_all [lookD, fKeys]
  | k :: ks, l, [], x, e, r => by simp at e
  | k :: ks, [], v :: vs, x, e, r => by cases (show (v :: vs) = [] from r)
  | k :: ks, d :: l, v :: vs, x, e, r => by
    obtain ⟨v', r', e', r1, r2⟩ := r
    cases e'
    have ih := look_fld (ks := ks) (l := l) (vs := vs) x (by simpa using e) r2
    by_cases q : x = k
    · subst q
      simp only [lookD, if_pos rfl, fKeys, List.lookup_cons, beq_self_eq_true]
      exact ⟨v, rfl, r1⟩
    · have q' : (x == k) = false := beq_eq_false_iff_ne.mpr q
      simp only [lookD, if_neg q, fKeys, List.lookup_cons, q']
      exact ih
theorem isEmpty_sKeys {ks : List Str} {vs : List V} (e : ks.length = vs.length) : (sKeys ks vs).isEmpty = ks.isEmpty := by
  cases ks <;> cases vs <;> simp_all [sKeys]
theorem len_sKeys : ∀ {ks : List Str} {vs : List V}, ks.length = vs.length → (sKeys ks vs).length = ks.length
  | [], vs, e => by cases vs <;> simp_all [sKeys]
  | k :: ks, [], e => by simp at e
  | k :: ks, v :: vs, e => by
    have := len_sKeys (ks := ks) (vs := vs) (by simpa using e)
    simp [sKeys, this]
theorem rep_flat {G : Gc} {Z : Addr → Prop} {H : Hp} {d : D} {v : V} (f : flatD d = true) (r : RepW G Z H d v) : flatV v = true ∧ ∀ e u, flatD e = true → RepW G Z H e u → eqV u v = deq e d := by
  cases d <;> simp only [flatD, Bool.false_eq_true] at f <;> obtain rfl : v = _ := r <;> refine ⟨rfl, fun e u fe re => ?_⟩ <;>
    (cases e <;> simp only [flatD, Bool.false_eq_true] at fe <;> obtain rfl : u = _ := re <;> simp only [eqV, deq])
theorem rep_flats {G : Gc} {Z : Addr → Prop} {H : Hp} {d : D} {v : V} (f : flatD d = true) (r : RepW G Z H d v) : ∀ {l : List D} {vs : List V}, l.all flatD = true → RepL G Z H l vs → vs.all flatV = true ∧ inV v vs = l.any fun y => deq y d
  | [], vs, _, h => by obtain rfl : vs = [] := h; simp [inV]
  | e :: l, vs, fl, h => by
    obtain ⟨u, w, rfl, r1, r2⟩ := h
    simp only [List.all_cons, Bool.and_eq_true] at fl
    obtain ⟨a, b⟩ := rep_flats f r fl.2 r2
    obtain ⟨c, k⟩ := rep_flat f r
    obtain ⟨c2, _⟩ := rep_flat fl.1 r1.w
    refine ⟨by simp only [List.all_cons, a, c2, Bool.and_self], ?_⟩
    unfold inV at b ⊢
    rw [List.any_cons, List.any_cons, b, k e u fl.1 r1.w]
theorem any_py {k : Nat} {d : D} (hd : shp k d = true) : ∀ {l : List D}, l.all (shp k) = true → ((toPyL l).any fun z => PyData.eqv z (toPy d)) = l.any fun y => deq y d
  | [], _ => rfl
  | e :: l, h => by
    simp only [List.all_cons, Bool.and_eq_true] at h
    simp only [toPyL, List.any_cons]
    rw [any_py hd h.2, deq_py k k e d h.1 hd]
section
variable {X : Cx} {Y : Cy} {a b c : Expr} {fa fb fc : DE} {pos : Pos}
def rInK : R2 := fun x y H Q => ∃ a kvs k, y = .ref a ∧ H a = some (.dK kvs) ∧ x = kV k ∧ Q (.bl (valV kvs k).isSome) H
def rNotInK : R2 := fun x y H Q => ∃ a kvs k, y = .ref a ∧ H a = some (.dK kvs) ∧ x = kV k ∧ Q (.bl (!(valV kvs k).isSome)) H
theorem op_in_dict {k : Nat} (hr : RoomL k X.A) : OpR X (compareOp .In) rInK := by
  intro pins s σ H x y v u Q I rx ry h
  obtain ⟨a, kvs, k, rfl, e, rfl, q⟩ := h
  cases ry
  exact d_in (hu_L hr) I (DGet.k e) rx fun s' I' => ⟨.bl _, H, I', rfl, q⟩
theorem op_notin_dict {k : Nat} (hr : RoomL k X.A) : OpR X (compareOp .NotIn) rNotInK := by
  intro pins s σ H x y v u Q I rx ry h
  obtain ⟨a, kvs, k, rfl, e, rfl, q⟩ := h
  cases ry
  exact d_notIn (hu_L hr) I (DGet.k e) rx fun s' I' => ⟨.bl _, H, I', rfl, q⟩
abbrev rSign : R2 := fun x y H Q => ∃ (c : Nat) (z : Str), x = .str ⟨#[c]⟩ ∧ y = .str z ∧ Q (.bl (decide (c ∈ z.cps.toList))) H
abbrev rNSign : R2 := fun x y H Q => ∃ (c : Nat) (z : Str), x = .str ⟨#[c]⟩ ∧ y = .str z ∧ Q (.bl (!decide (c ∈ z.cps.toList))) H
def rInA (K : PySem.W.Frag) : R2 := fun x y H Q => rSign x y H Q ∨ (rIn K false x y H Q ∨ (rInD K x y H Q ∨ rInK x y H Q))
def rNInA (K : PySem.W.Frag) : R2 := fun x y H Q => rNSign x y H Q ∨ (rIn K true x y H Q ∨ (rNotInD K x y H Q ∨ rNotInK x y H Q))
theorem str_one {s : Str} {c : Nat} (h : s.cps.toList = [c]) : s = ⟨#[c]⟩ := by
  obtain ⟨a⟩ := s
  have : a = #[c] := by
    have h' : a.toList = (#[c] : Array Nat).toList := h
    exact Array.toList_inj.mp h'
  rw [this]
/-- what `in` asks, as one fact -/
theorem in_fact {G : Gc} {Z : Addr → Prop} {H : Hp} {x y : V} {dx dy : D} {r : Bool} (rx : RepW G Z H dx x) (ry : RepW G Z H dy y) (h : inD dx dy = some r) :
    (∃ (c : Nat) (z : Str), x = .str ⟨#[c]⟩ ∧ y = .str z ∧ decide (c ∈ z.cps.toList) = r) ∨
    (∃ p xs, y = .ref p ∧ (SqL G.K H p xs ∨ SqT G.K H p xs) ∧ flatV x = true ∧ xs.all flatV = true ∧ inV x xs = r) ∨
    (∃ d ds, Dp G.K H x d ∧ Dp G.K H y (.list ds) ∧ SeqAt.shaped d = true ∧ SeqAt.shaped (.list ds) = true ∧ (ds.any fun z => PyData.eqv z d) = r) ∨
    (∃ a kvs k, y = .ref a ∧ H a = some (.dK kvs) ∧ x = kV k ∧ (valV kvs k).isSome = r) := by
  unfold inD at h
  split at h
  · split at h
    · rename_i t _ s
      obtain rfl : x = .str s := rx
      obtain rfl : y = .str t := ry
      obtain ⟨c, e, h⟩ := Option.map_eq_some_iff.mp h
      have e' : s.cps.toList = [c] := by
        unfold sgnD at e
        split at e
        · rename_i c' q
          rw [q, Option.some.inj e]
        · cases e
      exact .inl ⟨c, t, by rw [str_one e'], rfl, h⟩
    · cases h
  · rename_i l
    obtain ⟨p, vs, rfl, e, r2⟩ := ry
    split at h
    · rename_i hf
      obtain ⟨f1, f2⟩ := Bool.and_eq_true_iff.mp hf
      injection h with h
      obtain ⟨g1, g2⟩ := rep_flats f1 rx f2 r2
      exact .inr (.inl ⟨p, vs, rfl, .inl (SqL.of e), (rep_flat f1 rx).1, g1, g2.trans h⟩)
    · split at h
      · rename_i hf
        obtain ⟨f1, f2⟩ := Bool.and_eq_true_iff.mp hf
        injection h with h
        have f3 : ∀ x ∈ l, shp 60 x = true := fun x hx => List.all_eq_true.mp f2 x hx
        refine .inr (.inr (.inl ⟨_, toPyL l, repw_dp f1 rx, .lst (SqL.of e) (repL_dp 60 l vs f3 r2), shaped_py f1 (by decide), ?_, (any_py f1 f2).trans h⟩))
        exact shaped_py (k := 61) (d := .lst l) (by simpa [shp] using f3) (by decide)
      · cases h
  · rename_i l
    obtain ⟨p, vs, rfl, e, r2⟩ := rep_tup ry
    split at h
    · rename_i hf
      obtain ⟨f1, f2⟩ := Bool.and_eq_true_iff.mp hf
      injection h with h
      obtain ⟨g1, g2⟩ := rep_flats f1 rx f2 r2
      exact .inr (.inl ⟨p, vs, rfl, .inr e, (rep_flat f1 rx).1, g1, g2.trans h⟩)
    · cases h
  · rename_i ks l
    obtain ⟨p, vs, rfl, e, hl, r2⟩ := ry
    split at h
    · rename_i s
      obtain rfl : x = .str s := rx
      injection h with h
      refine .inr (.inr (.inr ⟨p, _, Sum.inr s, rfl, e, rfl, ?_⟩))
      have q := look_val s hl r2
      rw [← h]
      split at q
      · rename_i d e1
        obtain ⟨v, e2, _⟩ := q
        rw [e1, e2]
        rfl
      · rename_i e1
        rw [e1, q]
        rfl
    · cases h
  · cases h
theorem o2_in (G : Gc) : Op2 G (rInA G.K) oIn := by
  intro Z H x y dx dy Q zt rx ry h
  unfold oIn at h
  cases e : inD dx dy with
  | none => rw [e] at h; exact h.elim
  | some r =>
    rw [e] at h
    have hq : Q (.bl r) H := h _ H (Same.refl H) rfl
    rcases in_fact rx ry e with ⟨c, z, e1, e2, q⟩ | ⟨p, xs, e1, e2, e3, e4, q⟩ | ⟨d, ds, e1, e2, e3, e4, q⟩ | ⟨p, kvs, k, e1, e2, e3, q⟩
    · exact .inl ⟨c, z, e1, e2, by rw [q]; exact hq⟩
    · exact .inr (.inl ⟨p, xs, e1, e2, e3, e4, by rw [if_neg Bool.false_ne_true, q]; exact hq⟩)
    · exact .inr (.inr (.inl ⟨d, ds, e1, e2, e3, e4, by rw [q]; exact hq⟩))
    · exact .inr (.inr (.inr ⟨p, kvs, k, e1, e2, e3, by rw [q]; exact hq⟩))
theorem o2_notin (G : Gc) : Op2 G (rNInA G.K) oNotIn := by
  intro Z H x y dx dy Q zt rx ry h
  unfold oNotIn at h
  cases e : inD dx dy with
  | none => rw [e] at h; exact h.elim
  | some r =>
    rw [e] at h
    have hq : Q (.bl (!r)) H := h _ H (Same.refl H) rfl
    rcases in_fact rx ry e with ⟨c, z, e1, e2, q⟩ | ⟨p, xs, e1, e2, e3, e4, q⟩ | ⟨d, ds, e1, e2, e3, e4, q⟩ | ⟨p, kvs, k, e1, e2, e3, q⟩
    · exact .inl ⟨c, z, e1, e2, by rw [q]; exact hq⟩
    · exact .inr (.inl ⟨p, xs, e1, e2, e3, e4, by rw [if_pos rfl, q]; exact hq⟩)
    · exact .inr (.inr (.inl ⟨d, ds, e1, e2, e3, e4, by rw [q]; exact hq⟩))
    · exact .inr (.inr (.inr ⟨p, kvs, k, e1, e2, e3, by rw [q]; exact hq⟩))
theorem pd_in (ha : PDw X Y a fa) (hb : PDw X Y b fb) (hm : behindInMarks .In b = false := by rfl) : PD X Y (.Compare a [.In] [b] pos) (e2 oIn fa fb) :=
  pd_cmp (r := rInA X.K) (fun k => op_in_sign.or (op_in_seq.or ((op_inD (hu65 k.rm)).or (op_in_dict k.rm)))) (fun k => by rw [k]; exact o2_in _) ha hb hm
end
end Tw

set_option maxHeartbeats 2000000
namespace Tw
open PySem PySem.Spec L2
open PyProof.Rows hiding St
theorem orPE {X : Cx} {e : Expr} {t u : TE} (h : PE X e t) (k : PE X e u) : PE X e (fun σ H Q => t σ H Q ∨ u σ H Q) := ⟨fun pins s σ H Q I q => q.elim (h.run pins s σ H Q I) (k.run pins s σ H Q I)⟩
theorem atD_rep {G : Gc} {Z : Addr → Prop} {H : Hp} {l : List D} {vs : List V} {i : Int} {d : D} (r : RepL G Z H l vs) (h : atD l i = some d) : ∃ v, atI vs i = some v ∧ Rep G Z H d v := by
  have e := r.length
  unfold atD at h
  unfold atI ixN
  split at h
  · rename_i h0
    obtain ⟨v, e1, r1⟩ := r.get h
    have hl : i.toNat < vs.length := (List.getElem?_eq_some_iff.mp e1).1
    refine ⟨v, ?_, r1⟩
    rw [if_pos h0, if_pos (by omega)]
    exact e1
  · rename_i h0
    split at h
    · rename_i h1
      obtain ⟨v, e1, r1⟩ := r.get h
      refine ⟨v, ?_, r1⟩
      rw [if_neg h0, if_pos (by omega), ← e]
      exact e1
    · cases h
theorem atD_map {α β : Type} (f : α → β) (l : List α) (i : Int) : atD (l.map f) i = (atD l i).map f := by
  unfold atD
  rw [List.length_map]
  split
  · rw [List.getElem?_map]
  · split
    · rw [List.getElem?_map]
    · rfl
theorem atI_eq {α : Type} (l : List α) (i : Int) : atI l i = atD l i := by
  unfold atD atI ixN
  split
  · rename_i h0
    by_cases h : i < l.length
    · rw [if_pos h]; rfl
    · rw [if_neg h]
      have : l.length ≤ i.toNat := by omega
      rw [List.getElem?_eq_none this]
      rfl
  · split <;> rfl
section
variable {X : Cx} {Y : Cy} {a b c e : Expr} {fa fb fc : DE} {pos p2 : Pos}
theorem o2_ix (G : Gc) (Z : Addr → Prop) (H : Hp) (x y : V) (dx dy : D) (Q : VK) (zt : ∀ a, Z a → H a ≠ none) (rx : RepW G Z H dx x) (ry : RepW G Z H dy y) (h : OPost G Z H Q (oIx dx dy)) :
    (∀ ks l, dx ≠ .dct ks l) → rIx G.K x y H Q := by
  intro hd
  unfold oIx at h
  split at h
  · rename_i l i
    obtain ⟨p, vs, rfl, hp, r1⟩ := rx
    cases e : atD l i with
    | none => rw [e] at h; exact h.elim
    | some d =>
      rw [e] at h
      obtain ⟨v, e1, e2⟩ := atD_rep r1 e
      exact .inl ⟨p, vs, i, v, rfl, ry, SqL.of hp, e1, h _ H (Same.refl H) e2⟩
  · rename_i l i
    obtain ⟨p, vs, rfl, hp, r1⟩ := rep_tup rx
    cases e : atD l i with
    | none => rw [e] at h; exact h.elim
    | some d =>
      rw [e] at h
      obtain ⟨v, e1, e2⟩ := atD_rep r1 e
      exact .inr (.inl ⟨p, vs, i, v, rfl, ry, hp, e1, h _ H (Same.refl H) e2⟩)
  · rename_i l i
    obtain ⟨p, rfl, hp⟩ := rep_scr rx
    cases e : atD l i with
    | none => rw [e] at h; exact h.elim
    | some d =>
      rw [e] at h
      refine .inl ⟨p, _, i, .int d, rfl, ry, hp, ?_, h _ H (Same.refl H) rfl⟩
      rw [atI_eq, atD_map, e]
      rfl
  · rename_i s i
    split at h
    · rename_i hl
      cases e : atD s.cps.toList i with
      | none => rw [e] at h; exact h.elim
      | some d =>
        rw [e] at h
        exact .inr (.inr ⟨s, i, d, rx, ry, by rw [lineD_eq]; exact hl, by rw [atI_eq]; exact e, h _ H (Same.refl H) rfl⟩)
    · exact h.elim
  · exact absurd rfl (hd _ _)
  · exact h.elim
theorem o2_ixd (G : Gc) (Z : Addr → Prop) (H : Hp) (x y : V) (ks : List Str) (l : List D) (dy : D) (Q : VK) (rx : RepW G Z H (.dct ks l) x) (ry : RepW G Z H dy y) (h : OPost G Z H Q (oIx (.dct ks l) dy)) :
    ∃ a v, x = .ref a ∧ DGet H a y (some v) ∧ Q v H := by
  cases dy with
  | str s =>
    obtain ⟨p, vs, rfl, hp, hl, r1⟩ := rx
    obtain rfl : y = .str s := ry
    have q := look_val s hl r1
    simp only [oIx] at h
    cases e : lookD ks l s with
    | none => rw [e] at h; exact h.elim
    | some d =>
      rw [e] at h q
      obtain ⟨v, e1, e2⟩ := q
      refine ⟨p, v, rfl, ?_, h _ H (Same.refl H) e2⟩
      rw [← e1]
      exact DGet.k (k := Sum.inr s) hp
  | _ => exact h.elim
theorem pd_ix (ha : PDw X Y a fa) (hb : PDw X Y b fb) (hs : PlainIx b := by intro _ _; rfl) : PD X Y (.Subscript a b pos) (e2 oIx fa fb) := fun k => by
  refine impPE (orPE (pe_ix ix_seq (ha k) (hb k) hs) (pe_dget (hu_L k.rm) (ha k) (hb k) hs)) fun σ H Q h => ?_
  obtain ⟨O, ρ, s, q⟩ := h
  unfold e2 at q
  cases ea : fa ρ with
  | ex e => rw [ea] at q; exact .inl ⟨O, ρ, s, by rw [ea]; exact q⟩
  | no => rw [ea] at q; exact q.elim
  | ok dx =>
    rw [ea] at q
    simp only [R.bind_ok] at q
    by_cases hd : ∃ ks l, dx = .dct ks l
    · obtain ⟨ks, l, rfl⟩ := hd
      refine .inr ⟨O, ρ, s, ?_⟩
      rw [ea]
      intro x H1 s1 rx
      refine ⟨O, ρ, s.same s1, ?_⟩
      cases eb : fb ρ with
      | ex e => rw [eb] at q; exact ex_fwd s1 q
      | no => rw [eb] at q; exact q
      | ok dy =>
        rw [eb] at q
        simp only [R.bind_ok] at q
        intro y H2 s2 ry
        refine o2_ixd Y.G _ H2 x y ks l dy Q (rx.same s2) ry ?_
        cases eg : oIx (.dct ks l) dy with
        | none => rw [eg] at q; exact q
        | some d => rw [eg] at q; exact fun v H3 s3 rv => q v H3 (s1.trans (s2.trans s3)) rv
    · refine .inl ⟨O, ρ, s, ?_⟩
      rw [ea]
      intro x H1 s1 rx
      refine ⟨O, ρ, s.same s1, ?_⟩
      cases eb : fb ρ with
      | ex e => rw [eb] at q; exact ex_fwd s1 q
      | no => rw [eb] at q; exact q
      | ok dy =>
        rw [eb] at q
        simp only [R.bind_ok] at q
        intro y H2 s2 ry
        rw [k.K]
        refine o2_ix Y.G _ H2 x y dx dy Q ((s.same (s1.trans s2)).zt) (rx.same s2) ry ?_ fun ks l z => hd ⟨ks, l, z⟩
        cases eg : oIx dx dy with
        | none => rw [eg] at q; exact q
        | some d => rw [eg] at q; exact fun v H3 s3 rv => q v H3 (s1.trans (s2.trans s3)) rv
theorem lookD_mem : ∀ {ks : List Str} {l : List D} {f : Str} {d : D}, lookD ks l f = some d → f ∈ ks
  | [], l, f, d, h => by cases l <;> simp [lookD] at h
  | k :: ks, [], f, d, h => by simp [lookD] at h
  | k :: ks, d' :: l, f, d, h => by
    simp only [lookD] at h
    by_cases q : f = k
    · rw [q]; exact List.mem_cons_self
    · rw [if_neg q] at h; exact List.mem_cons_of_mem _ (lookD_mem h)
theorem pd_fld {f : Str} (ha : PDw X Y a fa) (hb : attributeBase a f X.env (eval a X.env) = eval a X.env := by rfl) : PD X Y (.Attribute a f pos) (e1 (oFld f) fa) := fun k => by
  refine impPE (pe_fld (ha k) hb) fun σ H Q h => ?_
  refine un_imp (r := fun x H1 Q => ∃ a C dx fs v, x = .ref a ∧ H1 a = some (.ins C dx fs) ∧ Cls X.K C ∧ NoAttr X.K C f ∧ fs.lookup f = some v ∧ Q v H1) (fun Z H x dx Q zt rx q => ?_) σ H Q h
  unfold oFld at q
  split at q
  · rename_i c ks l
    obtain ⟨p, dx, vs, rfl, hp, ⟨hl, hc, hf⟩, r1⟩ := rx
    have w := look_fld f hl r1
    cases e : lookD ks l f with
    | none => rw [e] at q; exact q.elim
    | some d =>
      rw [e] at q w
      obtain ⟨v, e1, e2⟩ := w
      have hin : f ∈ ks := lookD_mem e
      rw [k.K]
      exact ⟨p, Y.G.cm c, dx, _, v, rfl, hp, Y.G.cls c hc, Y.G.noat c f hc (hf f hin), e1, q _ H (Same.refl H) e2⟩
  · exact q.elim
def XPost (Y : Cy) (O : Addr → Prop) (σ : L2.St) (H : Hp) (Q : Option Int → Hp → Prop) : R (Option Int) → Prop
  | .ok d => ∀ H', Same H H' → Q d H'
  | .ex e => ∀ c od H', Same H H' → ExRep Y.G (Zo Y.Ze O) H' e c od → Y.E c od σ H'
  | .no => False
def tDX (Y : Cy) (f : DO) : TO := fun σ H Q => ∃ O ρ, SR Y O ρ σ H ∧ XPost Y O σ H Q (f ρ)
def PDX (X : Cx) (Y : Cy) (e : Option Expr) (f : DO) : Prop := Lk X Y → PO X e (tDX Y f)
theorem impPO {X : Cx} {e : Option Expr} {t t' : TO} (h : PO X e t) (i : ∀ σ H Q, t' σ H Q → t σ H Q) : PO X e t' := ⟨fun pins s σ H Q I q => h.run pins s σ H Q I (i σ H Q q)⟩
theorem px_none : PDX X Y none xNone := fun k => impPO po_none fun σ H Q ⟨O, ρ, s, q⟩ => q H (Same.refl H)
theorem px_some (ha : PDw X Y a fa) : PDX X Y (some a) (xSome fa) := fun k => impPO (po_some (ha k)) fun σ H Q ⟨O, ρ, s, q⟩ => by
  refine ⟨O, ρ, s, ?_⟩
  unfold xSome at q
  cases ea : fa ρ with
  | ex e => rw [ea] at q; exact q
  | no => rw [ea] at q; exact q
  | ok dx =>
    rw [ea] at q
    intro x H1 s1 rx
    cases dx with
    | int i => exact ⟨i, rx, q H1 s1⟩
    | _ => exact q.elim
theorem sIx_eq (n d : Nat) (o : Option Int) : HT.sIx n d o = sIxD n d o := by cases o <;> rfl
theorem cutV_rep {G : Gc} {Z : Addr → Prop} {H : Hp} {l : List D} {vs : List V} (r : RepL G Z H l vs) (lo hi : Option Int) : RepL G Z H (cutD l lo hi) (cutV vs lo hi) := by
  unfold cutD cutV
  simp only [sIx_eq, r.length]
  exact (r.drop _).take _
theorem o_sl (G : Gc) (Z : Addr → Prop) (H : Hp) (x : V) (lo hi : Option Int) (dx : D) (Q : VK) (zt : ∀ a, Z a → H a ≠ none) (rx : RepW G Z H dx x) (h : OPost G Z H Q (oSl lo hi dx)) :
    rSlL G.K x lo hi H Q ∨ (rSlA G.K x lo hi H Q ∨ rSlS x lo hi H Q) := by
  unfold oSl at h
  split at h
  · rename_i l
    obtain ⟨p, vs, rfl, hp, r1⟩ := rx
    exact .inl ⟨p, vs, rfl, SqL.of hp, fun n hn => h _ _ (same_new hn) ⟨n, _, rfl, fun z => zt n z hn, upd_same, (cutV_rep r1 lo hi).same (same_new hn)⟩⟩
  · rename_i l
    have rx' := rx
    obtain ⟨p, vs, rfl, hp, r1⟩ := rep_tup rx
    refine .inr (.inl ⟨p, vs, rfl, hp, fun w => ?_, fun w n hn => h _ _ (same_new hn) ⟨n, _, rfl, .inl ⟨fun z => zt n z hn, upd_same⟩, (cutV_rep r1 lo hi).same (same_new hn)⟩⟩)
    have e : cutD l lo hi = l := by
      unfold cutD
      simp only [sIx_eq, ← r1.length] at w
      rw [w.1, w.2]
      simp
    rw [e] at h
    exact h _ H (Same.refl H) rx'
  · rename_i s
    split at h
    · rename_i hl
      refine .inr (.inr ⟨s, rx, by rw [lineD_eq]; exact hl, ?_⟩)
      have e : cutS s lo hi = ⟨(cutD s.cps.toList lo hi).toArray⟩ := by
        unfold cutS cutD
        simp only [sIx_eq]
        rfl
      rw [e]
      exact h _ H (Same.refl H) rfl
    · exact h.elim
  · exact h.elim
theorem pd_slice {lo hi : Option Expr} {fl fh : DO} (ha : PDw X Y a fa) (hl : PDX X Y lo fl) (hh : PDX X Y hi fh) : PD X Y (.Subscript a (.Slice lo hi none p2) pos) (eSl fa fl fh) := fun k => by
  refine impPE (pe_slice (sl_list.or (sl_tupA.or sl_str)) (ha k) (hl k) (hh k)) fun σ H Q h => ?_
  obtain ⟨O, ρ, s, q⟩ := h
  refine ⟨O, ρ, s, ?_⟩
  unfold eSl at q
  cases ea : fa ρ with
  | ex e => rw [ea] at q; exact q
  | no => rw [ea] at q; exact q
  | ok dx =>
    rw [ea] at q
    simp only [R.bind_ok] at q
    intro x H1 s1 rx
    refine ⟨O, ρ, s.same s1, ?_⟩
    cases eb : fl ρ with
    | ex e => rw [eb] at q; exact ex_fwd s1 q
    | no => rw [eb] at q; exact q
    | ok lo' =>
      rw [eb] at q
      simp only [R.bind_ok] at q
      intro H2 s2
      refine ⟨O, ρ, (s.same s1).same s2, ?_⟩
      cases ec : fh ρ with
      | ex e => rw [ec] at q; exact ex_fwd (s1.trans s2) q
      | no => rw [ec] at q; exact q
      | ok hi' =>
        rw [ec] at q
        simp only [R.bind_ok] at q
        intro H3 s3
        have s13 := s1.trans (s2.trans s3)
        rw [k.K]
        refine o_sl Y.G _ H3 x lo' hi' dx Q ((s.same s13).zt) (rx.same (s2.trans s3)) ?_
        cases eg : oSl lo' hi' dx with
        | none => rw [eg] at q; exact q
        | some d => rw [eg] at q; exact fun v H4 s4 rv => q v H4 (s13.trans s4) rv
theorem da_nil : PDA X Y [] aNil := fun k => impPA pa_nil fun σ H Q ⟨O, ρ, s, q⟩ => q [] H (Same.refl H) rfl
theorem da_cons {es : List Expr} {fs : DA} (ha : PD X Y a fa) (hr : PDA X Y es fs) (hs : starEach (a :: es) X.env = (false, eval a X.env) :: starEach es X.env := by rfl) : PDA X Y (a :: es) (aCons fa fs) := fun k => impPA (pa_cons (ha k) (hr k) hs) fun σ H Q ⟨O, ρ, s, q⟩ => by
  refine ⟨O, ρ, s, ?_⟩
  unfold aCons at q
  cases ea : fa ρ with
  | ex e => rw [ea] at q; exact q
  | no => rw [ea] at q; exact q
  | ok dx =>
    rw [ea] at q
    simp only [R.bind_ok] at q
    intro x H1 s1 rx
    refine ⟨O, ρ, s.same s1, ?_⟩
    cases eb : fs ρ with
    | ex e => rw [eb] at q; exact ex_fwd s1 q
    | no => rw [eb] at q; exact q
    | ok ds =>
      rw [eb] at q
      intro vs H2 s2 rs
      exact q _ H2 (s1.trans s2) (RepL.cons (rx.same s2) rs)
theorem arg_imp {fs : DA} {g : List D → Option D} {r : List V → Hp → VK → Prop} (ho : ∀ Z H vs ds Q, (∀ a, Z a → H a ≠ none) → RepL Y.G Z H ds vs → OPost Y.G Z H Q (g ds) → r vs H Q) (σ : L2.St) (H : Hp) (Q : VK)
    (h : tD Y (fun ρ => (fs ρ).bind fun xs => R.of (g xs)) σ H Q) : tDA Y fs σ H (fun vs H1 => r vs H1 Q) := by
  obtain ⟨O, ρ, s, q⟩ := h
  refine ⟨O, ρ, s, ?_⟩
  have q : EPost Y O σ H Q ((fs ρ).bind fun xs => R.of (g xs)) := q
  cases ea : fs ρ with
  | ex e => rw [ea] at q; exact q
  | no => rw [ea] at q; exact q
  | ok ds =>
    rw [ea] at q
    simp only [R.bind_ok] at q
    intro vs H1 s1 rs
    refine ho _ H1 vs ds Q ((s.same s1).zt) rs ?_
    cases eg : g ds with
    | none => rw [eg] at q; exact q
    | some d => rw [eg] at q; exact fun v H4 s4 rv => q v H4 (s1.trans s4) rv
theorem eTup_of (fs : DA) : eTup fs = fun ρ => (fs ρ).bind fun xs => R.of (if xs.length ≤ lineD then some (.tup xs) else none) := by
  funext ρ
  unfold eTup
  congr 1
  funext xs
  split <;> rfl
theorem eLst_of (fs : DA) : eLst fs = fun ρ => (fs ρ).bind fun xs => R.of (if xs.length ≤ lineD then some (.lst xs) else none) := by
  funext ρ
  unfold eLst
  congr 1
  funext xs
  split <;> rfl
theorem pd_tup {es : List Expr} {fs : DA} {x1 : Nat} (ha : PDA X Y es fs) : PD X Y (.Tuple es x1 pos) (eTup fs) := fun k => by
  rw [eTup_of]
  refine impPE (pe_tup (ha k)) fun σ H Q h => arg_imp (r := fun xs H1 Q => xs.length ≤ sizeLine ∧ ∀ p, H1 p = none → Q (.ref p) (upd H1 p (.tup xs))) (fun Z H vs ds Q zt rs q => ?_) σ H Q h
  split at q
  · rename_i hl
    exact ⟨by rw [lineD_eq, ← rs.length]; exact hl, fun n hn => q _ _ (same_new hn) ⟨n, _, rfl, .inl ⟨fun z => zt n z hn, upd_same⟩, rs.same (same_new hn)⟩⟩
  · exact q.elim
theorem pd_lst {es : List Expr} {fs : DA} (ha : PDA X Y es fs) : PD X Y (.List es pos) (eLst fs) := fun k => by
  rw [eLst_of]
  refine impPE (pe_lst (ha k)) fun σ H Q h => arg_imp (r := fun xs H1 Q => xs.length ≤ sizeLine ∧ ∀ p, H1 p = none → Q (.ref p) (upd H1 p (.lst xs))) (fun Z H vs ds Q zt rs q => ?_) σ H Q h
  split at q
  · rename_i hl
    exact ⟨by rw [lineD_eq, ← rs.length]; exact hl, fun n hn => q _ _ (same_new hn) ⟨n, _, rfl, fun z => zt n z hn, upd_same, rs.same (same_new hn)⟩⟩
  · exact q.elim
end
end Tw

set_option maxHeartbeats 2000000
namespace Tw
open PySem PySem.Spec L2
open PyProof.Rows hiding St
section
variable {X : Cx} {Y : Cy} {a b c e : Expr} {fa fb fc : DE} {pos p p2 : Pos} {x : Str} {id T : String}
def Cb1 (G : Gc) (r : List V → Hp → VK → Prop) (g : D → Option D) : Prop := ∀ (Z : Addr → Prop) (H : Hp) (x : V) (dx : D) (Q : VK), (∀ a, Z a → H a ≠ none) → RepW G Z H dx x → OPost G Z H Q (g dx) → r [x] H Q
def Cb2 (G : Gc) (r : List V → Hp → VK → Prop) (g : D → D → Option D) : Prop := ∀ (Z : Addr → Prop) (H : Hp) (x y : V) (dx dy : D) (Q : VK), (∀ a, Z a → H a ≠ none) → RepW G Z H dx x → RepW G Z H dy y → OPost G Z H Q (g dx dy) → r [x, y] H Q
theorem CallR.or {f : Value} {r r' : List V → Hp → VK → Prop} (h : CallR X f r) (h' : CallR X f r') : CallR X f (fun xs H Q => r xs H Q ∨ r' xs H Q) := by
  intro pins s σ H xs us Q I rx q
  rcases q with q | q
  · exact h pins s σ H xs us Q I rx q
  · exact h' pins s σ H xs us Q I rx q
theorem pd_b1 {r : List V → Hp → VK → Prop} {g : D → Option D} (hc : Lk X Y → CallR X (.builtin id) r) (ho : X.K = Y.G.K → Cb1 Y.G r g) (hv : bootBuiltins x = some (.builtin id)) (hg : Gl X x) (hm : X.mg x = none) (ha : PDw X Y a fa) (hn : x ≠ "__name__" := by decide) (hdb : (x == ("__debug__" : Str)) = false := by decide)
    (hs : starEach (a :: []) X.env = (false, eval a X.env) :: starEach [] X.env := by rfl) (hpl : (backTo pos (starEach [] X.env)).any (·.1) = false := by rfl) :
    PD X Y (.Call (.Name x p) [a] [] pos) (e1 g fa) := fun k => by
  refine impPE (pe_callB (hc k) hg hm hv (pa_cons (ha k) pa_nil hs) hn hdb (he := hs) (hpl := hpl)) fun σ H Q h => ?_
  exact un_imp (r := fun x H1 Q => r [x] H1 Q) (fun Z H x dx Q zt rx q => ho k.K Z H x dx Q zt rx q) σ H Q h
theorem pd_t1 {r : List V → Hp → VK → Prop} {g : D → Option D} (hc : Lk X Y → CallR X (.type T) r) (ho : X.K = Y.G.K → Cb1 Y.G r g) (hv : bootBuiltins x = some (.type T)) (hg : Gl X x) (hm : X.mg x = none) (ha : PDw X Y a fa) (hn : x ≠ "__name__" := by decide) (hdb : (x == ("__debug__" : Str)) = false := by decide)
    (hs : starEach (a :: []) X.env = (false, eval a X.env) :: starEach [] X.env := by rfl) (hpl : (backTo pos (starEach [] X.env)).any (·.1) = false := by rfl) :
    PD X Y (.Call (.Name x p) [a] [] pos) (e1 g fa) := fun k => by
  refine impPE (pe_callTy (hc k) hg hm hv (pa_cons (ha k) pa_nil hs) hn hdb (he := hs) (hpl := hpl)) fun σ H Q h => ?_
  exact un_imp (r := fun x H1 Q => r [x] H1 Q) (fun Z H x dx Q zt rx q => ho k.K Z H x dx Q zt rx q) σ H Q h
theorem pd_b2 {r : List V → Hp → VK → Prop} {g : D → D → Option D} (hc : Lk X Y → CallR X (.builtin id) r) (ho : X.K = Y.G.K → Cb2 Y.G r g) (hv : bootBuiltins x = some (.builtin id)) (hg : Gl X x) (hm : X.mg x = none) (ha : PDw X Y a fa) (hb : PDw X Y b fb) (hn : x ≠ "__name__" := by decide) (hdb : (x == ("__debug__" : Str)) = false := by decide)
    (hs : starEach (a :: [b]) X.env = (false, eval a X.env) :: starEach [b] X.env := by rfl) (hs2 : starEach (b :: []) X.env = (false, eval b X.env) :: starEach [] X.env := by rfl) (hpl : (backTo pos (starEach [b] X.env)).any (·.1) = false := by rfl) :
    PD X Y (.Call (.Name x p) [a, b] [] pos) (e2 g fa fb) := fun k => by
  refine impPE (pe_callB (hc k) hg hm hv (pa_cons (ha k) (pa_cons (hb k) pa_nil hs2) hs) hn hdb (he := hs) (hpl := hpl)) fun σ H Q h => ?_
  exact bin_imp (r := fun x y H1 Q => r [x, y] H1 Q) (fun Z H x y dx dy Q zt rx ry q => ho k.K Z H x y dx dy Q zt rx ry q) σ H Q h
theorem cb_len (G : Gc) : Cb1 G (fun xs H Q => ∃ x n, xs = [x] ∧ LenV G.K x H n ∧ Q (.int n) H) oLen := by
  intro Z H x dx Q zt rx q
  unfold oLen at q
  split at q
  · obtain ⟨p, vs, rfl, hp, r1⟩ := rx
    exact ⟨_, vs.length, rfl, .inl ⟨vs, SqL.of hp, rfl⟩, by rw [← r1.length]; exact q _ H (Same.refl H) rfl⟩
  · obtain ⟨p, vs, rfl, hp, r1⟩ := rep_tup rx
    exact ⟨_, vs.length, rfl, .inr ⟨vs, hp, rfl⟩, by rw [← r1.length]; exact q _ H (Same.refl H) rfl⟩
  · rename_i l
    obtain ⟨p, rfl, hp⟩ := rep_scr rx
    exact ⟨_, (l.map V.int).length, rfl, .inl ⟨_, hp, rfl⟩, by rw [List.length_map]; exact q _ H (Same.refl H) rfl⟩
  · rename_i s
    split at q
    · rename_i hl
      obtain rfl : x = .str s := rx
      exact ⟨_, s.length, rfl, ⟨by rw [lineD_eq]; exact hl, rfl⟩, q _ H (Same.refl H) rfl⟩
    · exact q.elim
  · exact q.elim
theorem pd_len (hg : Gl X "len") (hm : X.mg "len" = none) (ha : PDw X Y a fa) (hs : starEach (a :: []) X.env = (false, eval a X.env) :: starEach [] X.env := by rfl) : PD X Y (.Call (.Name "len" p) [a] [] pos) (e1 oLen fa) :=
  pd_b1 (fun _ => call_len) (fun k => by rw [k]; exact cb_len _) PySem.boot_len hg hm ha (hs := hs)
theorem pd_int' (hg : Gl X "int") (hm : X.mg "int" = none) (ha : PDw X Y a fa) (hs : starEach (a :: []) X.env = (false, eval a X.env) :: starEach [] X.env := by rfl) : PD X Y (.Call (.Name "int" p) [a] [] pos) (e1 oInt fa) :=
  pd_t1 (fun _ => call_int1) (fun k Z H x dx Q zt rx q => by
    unfold oInt at q
    split at q
    · exact .inl ⟨_, by rw [show x = _ from rx], q _ H (Same.refl H) rfl⟩
    · exact .inr ⟨_, by rw [show x = _ from rx], q _ H (Same.refl H) rfl⟩
    · exact q.elim) (by decide +kernel) hg hm ha (hs := hs)
theorem pd_abs (hg : Gl X "abs") (hm : X.mg "abs" = none) (ha : PDw X Y a fa) (hs : starEach (a :: []) X.env = (false, eval a X.env) :: starEach [] X.env := by rfl) : PD X Y (.Call (.Name "abs" p) [a] [] pos) (e1 oAbs fa) :=
  pd_b1 (fun _ => call_abs) (fun k Z H x dx Q zt rx q => by
    unfold oAbs at q
    split at q
    · exact ⟨_, by rw [show x = _ from rx], q _ H (Same.refl H) rfl⟩
    · exact q.elim) (by decide +kernel) hg hm ha (hs := hs)
theorem intsD_rep {G : Gc} {Z : Addr → Prop} {H : Hp} : ∀ {l : List D} {vs : List V} {ns : List Int}, RepL G Z H l vs → intsD l = some ns → vs = ns.map V.int
  | [], vs, ns, r, h => by
    cases h
    exact r
  | d :: l, vs, ns, r, h => by
    obtain ⟨v, w, rfl, r1, r2⟩ := r
    cases d with
    | int i =>
      obtain ⟨ms, e1, e2⟩ := Option.map_eq_some_iff.mp h
      subst e2
      rw [List.map_cons, ← intsD_rep r2 e1, show v = .int i from r1]
    | _ => cases h
theorem blsD_rep {G : Gc} {Z : Addr → Prop} {H : Hp} : ∀ {l : List D} {vs : List V} {ns : List Bool}, RepL G Z H l vs → blsD l = some ns → vs = ns.map V.bl
  | [], vs, ns, r, h => by
    cases h
    exact r
  | d :: l, vs, ns, r, h => by
    obtain ⟨v, w, rfl, r1, r2⟩ := r
    cases d with
    | bl i =>
      obtain ⟨ms, e1, e2⟩ := Option.map_eq_some_iff.mp h
      subst e2
      rw [List.map_cons, ← blsD_rep r2 e1, show v = .bl i from r1]
    | _ => cases h
theorem pd_sum (hg : Gl X "sum") (hm : X.mg "sum" = none) (ha : PDw X Y a fa) (hs : starEach (a :: []) X.env = (false, eval a X.env) :: starEach [] X.env := by rfl) (hca : Y.ca = true := by rfl) : PD X Y (.Call (.Name "sum" p) [a] [] pos) (e1 oSum fa) :=
  pd_b1 (fun k => cr_sum (k.calm hca)) (fun k Z H x dx Q zt rx q => by
    rw [k]
    unfold oSum at q
    split at q
    · rename_i l
      obtain ⟨p, vs, rfl, hp, r1⟩ := rx
      cases e : intsD l with
      | none => rw [e] at q; exact q.elim
      | some ns =>
        rw [e] at q
        rw [intsD_rep r1 e] at hp
        exact ⟨p, ns, rfl, SqL.of hp, q _ H (Same.refl H) rfl⟩
    · rename_i l
      obtain ⟨p, rfl, hp⟩ := rep_scr rx
      exact ⟨p, l, rfl, hp, q _ H (Same.refl H) rfl⟩
    · exact q.elim) (by decide +kernel) hg hm ha (hs := hs)
theorem pd_all (hg : Gl X "all") (hm : X.mg "all" = none) (ha : PDw X Y a fa) (hs : starEach (a :: []) X.env = (false, eval a X.env) :: starEach [] X.env := by rfl) (hca : Y.ca = true := by rfl) : PD X Y (.Call (.Name "all" p) [a] [] pos) (e1 oAll fa) :=
  pd_b1 (fun k => cr_all (k.calm hca)) (fun k Z H x dx Q zt rx q => by
    rw [k]
    unfold oAll at q
    split at q
    · rename_i l
      obtain ⟨p, vs, rfl, hp, r1⟩ := rx
      cases e : blsD l with
      | none => rw [e] at q; exact q.elim
      | some ns =>
        rw [e] at q
        rw [blsD_rep r1 e] at hp
        exact ⟨p, ns, rfl, SqL.of hp, q _ H (Same.refl H) rfl⟩
    · exact q.elim) (by decide +kernel) hg hm ha (hs := hs)
theorem pd_max (hg : Gl X "max") (hm : X.mg "max" = none) (ha : PDw X Y a fa) (hb : PDw X Y b fb) (hs : starEach (a :: [b]) X.env = (false, eval a X.env) :: starEach [b] X.env := by rfl) (hs2 : starEach (b :: []) X.env = (false, eval b X.env) :: starEach [] X.env := by rfl) (hpl : (backTo pos (starEach [b] X.env)).any (·.1) = false := by rfl) (hca : Y.ca = true := by rfl) : PD X Y (.Call (.Name "max" p) [a, b] [] pos) (e2 oMax fa fb) :=
  pd_b2 (fun k => call_max2 (k.calm hca)) (fun k Z H x y dx dy Q zt rx ry q => by
    unfold oMax at q
    split at q
    · exact ⟨_, _, by rw [show x = _ from rx, show y = _ from ry], q _ H (Same.refl H) rfl⟩
    · exact q.elim) (by decide +kernel) hg hm ha hb (hs := hs) (hs2 := hs2) (hpl := hpl)
theorem pd_list (hg : Gl X "list") (hm : X.mg "list" = none) (ha : PDw X Y a fa) (hs : starEach (a :: []) X.env = (false, eval a X.env) :: starEach [] X.env := by rfl) : PD X Y (.Call (.Name "list" p) [a] [] pos) (e1 oList fa) :=
  pd_t1 (fun k => call_list_of) (fun k Z H x dx Q zt rx q => by
    rw [k]
    unfold oList at q
    split at q
    · obtain ⟨p, vs, rfl, hp, r1⟩ := rx
      exact ⟨p, vs, rfl, .inl (SqL.of hp), fun n hn => q _ _ (same_new hn) ⟨n, _, rfl, fun z => zt n z hn, upd_same, r1.same (same_new hn)⟩⟩
    · obtain ⟨p, vs, rfl, hp, r1⟩ := rep_tup rx
      exact ⟨p, vs, rfl, .inr hp, fun n hn => q _ _ (same_new hn) ⟨n, _, rfl, fun z => zt n z hn, upd_same, r1.same (same_new hn)⟩⟩
    · exact q.elim) (by decide +kernel) hg hm ha (hs := hs)
theorem pd_tuple (hg : Gl X "tuple") (hm : X.mg "tuple" = none) (ha : PDw X Y a fa) (hs : starEach (a :: []) X.env = (false, eval a X.env) :: starEach [] X.env := by rfl) : PD X Y (.Call (.Name "tuple" p) [a] [] pos) (e1 oTuple fa) :=
  pd_t1 (fun k => call_tuple_of) (fun k Z H x dx Q zt rx q => by
    rw [k]
    unfold oTuple at q
    split at q
    · obtain ⟨p, vs, rfl, hp, r1⟩ := rx
      exact ⟨p, vs, rfl, .inl ⟨SqL.of hp, fun n hn => q _ _ (same_new hn) ⟨n, _, rfl, .inl ⟨fun z => zt n z hn, upd_same⟩, r1.same (same_new hn)⟩⟩⟩
    · have rx' := rx
      obtain ⟨p, vs, rfl, hp, r1⟩ := rep_tup rx
      exact ⟨p, vs, rfl, .inr ⟨hp, q _ H (Same.refl H) rx'⟩⟩
    · exact q.elim) (by decide +kernel) hg hm ha (hs := hs)
theorem oIsi_kit {G : Gc} {Z : Addr → Prop} {H : Hp} {t : String} {x : V} {dx d : D} (rx : RepW G Z H dx x) (h : oIsi t dx = some d) : ∃ (n : String) (b : Bool), d = .bl b ∧ TyX G.K H x (.type n) ∧ PySem.W.kitOne G.K (.type n) (.type t) = some b := by
  have key : ∀ (n : String) (hx : TyX G.K H x (.type n)) (b : Bool), kitB n t = some b → D.bl b = d → ∃ (n : String) (b : Bool), d = .bl b ∧ TyX G.K H x (.type n) ∧ PySem.W.kitOne G.K (.type n) (.type t) = some b :=
    fun n hx b hk e => ⟨n, b, e.symm, hx, kit_ty hk⟩
  unfold oIsi at h
  split at h
  · have hx : TyX G.K H x (.type "bool") := by rw [show x = _ from rx]; exact .base (.bl _)
    split at h
    · rename_i ht
      rcases ht with rfl | rfl <;> exact key _ hx true (by decide +kernel) (Option.some.inj h)
    · split at h
      · rename_i ht
        rcases ht with rfl | rfl | rfl <;> exact key _ hx false (by decide +kernel) (Option.some.inj h)
      · cases h
  · have hx : TyX G.K H x (.type "int") := by rw [show x = _ from rx]; exact .base (.int _)
    split at h
    · rename_i ht
      subst ht
      exact key _ hx true (by decide +kernel) (Option.some.inj h)
    · split at h
      · rename_i ht
        rcases ht with rfl | rfl | rfl | rfl <;> exact key _ hx false (by decide +kernel) (Option.some.inj h)
      · cases h
  · have hx : TyX G.K H x (.type "str") := by rw [show x = _ from rx]; exact .base (.str _)
    split at h
    · rename_i ht
      subst ht
      exact key _ hx true (by decide +kernel) (Option.some.inj h)
    · split at h
      · rename_i ht
        rcases ht with rfl | rfl | rfl | rfl <;> exact key _ hx false (by decide +kernel) (Option.some.inj h)
      · cases h
  · have hx : TyX G.K H x (.type "tuple") := by
      obtain ⟨a, vs, rfl, t, r⟩ := rx
      rcases t with ⟨_, t⟩ | ⟨o, its, n, e, c, _⟩
      · exact .base (.tup t)
      · exact .kTuple e c
    split at h
    · rename_i ht
      subst ht
      exact key _ hx true (by decide +kernel) (Option.some.inj h)
    · split at h
      · rename_i ht
        rcases ht with rfl | rfl | rfl | rfl <;> exact key _ hx false (by decide +kernel) (Option.some.inj h)
      · cases h
  · have hx : TyX G.K H x (.type "list") := by
      obtain ⟨a, vs, rfl, t, r⟩ := rx
      exact .base (.lst t)
    split at h
    · rename_i ht
      subst ht
      exact key _ hx true (by decide +kernel) (Option.some.inj h)
    · split at h
      · rename_i ht
        rcases ht with rfl | rfl | rfl | rfl <;> exact key _ hx false (by decide +kernel) (Option.some.inj h)
      · cases h
  · have hx : TyX G.K H x (.type "NoneType") := by rw [show x = _ from rx]; exact .base .non
    split at h
    · rename_i ht
      rcases ht with rfl | rfl | rfl | rfl | rfl <;> exact key _ hx false (by decide +kernel) (Option.some.inj h)
    · cases h
  · cases h
/-- isinstance(x, T), T a built-in class -/
theorem pd_isi (t : String) {x : Str} (hg : Gl X "isinstance") (hm : X.mg "isinstance" = none) (ha : PDw X Y a fa) (hg2 : Gl X x) (hm2 : X.mg x = none) (hv2 : bootBuiltins x = some (.type t))
    (hs : starEach (a :: [.Name x p2]) X.env = (false, eval a X.env) :: starEach [.Name x p2] X.env := by rfl) (hs2 : starEach (.Name x p2 :: []) X.env = (false, eval (.Name x p2) X.env) :: starEach [] X.env := by rfl)
    (hpl : (backTo pos (starEach [.Name x p2] X.env)).any (·.1) = false := by rfl) (hn : x ≠ "__name__" := by decide) (hdb : (x == ("__debug__" : Str)) = false := by decide) : PD X Y (.Call (.Name "isinstance" p) [a, .Name x p2] [] pos) (e1 (oIsi t) fa) := fun k => by
  refine impPE (pe_callB call_isi hg hm (by decide +kernel) (pa_cons (ha k) (pa_cons (pe_bltn (v := .ty t) hg2 hm2 hv2 rfl hn hdb) pa_nil hs2) hs) (he := hs) (hpl := hpl)) fun σ H Q h => ?_
  refine un_imp (r := fun x H1 Q => rIsi X.K [x, .ty t] H1 Q) (fun Z H x dx Q zt rx q => ?_) σ H Q h
  cases e : oIsi t dx with
  | none => rw [e] at q; exact q.elim
  | some d =>
    rw [e] at q
    obtain ⟨n, b, rfl, hx, hk⟩ := oIsi_kit rx e
    rw [k.K]
    exact ⟨x, .ty t, .type n, .type t, b, rfl, .ty t, hx, hk, q _ H (Same.refl H) rfl⟩
end
section
variable {X : Cx} {Y : Cy} {a b c e : Expr} {fa fb fc : DE} {ga gb : DT} {pos p p2 : Pos}
theorem tval_imp (σ : L2.St) (H : Hp) (Q : Bool → Hp → Prop) (h : tDT Y (tVal fa) σ H Q) : tD Y fa σ H (fun x H1 => ∃ c, x = .bl c ∧ Q c H1) := by
  obtain ⟨O, ρ, s, q⟩ := h
  refine ⟨O, ρ, s, ?_⟩
  unfold tVal at q
  cases ea : fa ρ with
  | ex e => rw [ea] at q; exact q
  | no => rw [ea] at q; exact q
  | ok dx =>
    rw [ea] at q
    intro x H1 s1 rx
    cases dx with
    | bl k => exact ⟨k, rx, q H1 s1⟩
    | _ => exact q.elim
theorem pt_cm {op : CmpOp} {r : R2} {g : D → D → Option D} (hr : Lk X Y → OpR X (compareOp op) r) (ho : X.K = Y.G.K → Op2 Y.G r g) (ha : PDw X Y a fa) (hb : PDw X Y b fb) (hm : behindInMarks op b = false) : PDT X Y (.Compare a [op] [b] pos) (tVal (e2 g fa fb)) := fun k =>
  impPT (pt_cmpR (hr k) (ha k) (hb k) hm) fun σ H Q h => by
    have h1 := tval_imp σ H Q h
    exact bin_imp (ho k.K) σ H _ h1
theorem pt_lt (ha : PDw X Y a fa) (hb : PDw X Y b fb) : PDT X Y (.Compare a [.Lt] [b] pos) (tVal (e2 oLt fa fb)) := pt_cm (fun _ => op_lt) (fun _ => o2_lt _) ha hb (nomark _)
theorem pt_gt (ha : PDw X Y a fa) (hb : PDw X Y b fb) : PDT X Y (.Compare a [.Gt] [b] pos) (tVal (e2 oGt fa fb)) := pt_cm (fun _ => op_gt) (fun _ => o2_gt _) ha hb (nomark _)
theorem pt_ge (ha : PDw X Y a fa) (hb : PDw X Y b fb) : PDT X Y (.Compare a [.GtE] [b] pos) (tVal (e2 oGe fa fb)) := pt_cm (fun _ => op_ge) (fun _ => o2_ge _) ha hb (nomark _)
theorem pt_eq (ha : PDw X Y a fa) (hb : PDw X Y b fb) : PDT X Y (.Compare a [.Eq] [b] pos) (tVal (e2 oEq fa fb)) :=
  pt_cm (r := rEqA X.K) (fun k => op_eq.or (op_eqD (hu64 k.rm))) (fun k => by rw [k]; exact o2_eq _) ha hb (nomark _)
theorem pt_ne (ha : PDw X Y a fa) (hb : PDw X Y b fb) : PDT X Y (.Compare a [.NotEq] [b] pos) (tVal (e2 oNe fa fb)) :=
  pt_cm (r := rNeA X.K) (fun k => op_ne.or (op_neD (hu64 k.rm))) (fun k => by rw [k]; exact o2_ne _) ha hb (nomark _)
theorem pt_in (ha : PDw X Y a fa) (hb : PDw X Y b fb) (hm : behindInMarks .In b = false := by rfl) : PDT X Y (.Compare a [.In] [b] pos) (tVal (e2 oIn fa fb)) :=
  pt_cm (r := rInA X.K) (fun k => op_in_sign.or (op_in_seq.or ((op_inD (hu65 k.rm)).or (op_in_dict k.rm)))) (fun k => by rw [k]; exact o2_in _) ha hb hm
theorem pt_notin (ha : PDw X Y a fa) (hb : PDw X Y b fb) (hm : behindInMarks .NotIn b = false := by rfl) : PDT X Y (.Compare a [.NotIn] [b] pos) (tVal (e2 oNotIn fa fb)) :=
  pt_cm (r := rNInA X.K) (fun k => op_notIn_sign.or (op_notIn_seq.or ((op_notInD (hu65 k.rm)).or (op_notin_dict k.rm)))) (fun k => by rw [k]; exact o2_notin _) ha hb hm
theorem tru_rep {G : Gc} {Z : Addr → Prop} {H : Hp} {x : V} {dx : D} {k : Bool} (rx : RepW G Z H dx x) (h : truD dx = some k) : TruV G.K x H k := by
  unfold truD at h
  split at h
  · obtain rfl : x = .non := rx; exact (Option.some.inj h).symm
  · rename_i b; obtain rfl : x = .bl b := rx; exact (Option.some.inj h).symm
  · rename_i b; obtain rfl : x = .int b := rx; exact (Option.some.inj h).symm
  · rename_i b
    split at h
    · rename_i hl
      obtain rfl : x = .str b := rx; exact ⟨by rw [lineD_eq]; exact hl, (Option.some.inj h).symm⟩
    · cases h
  · obtain ⟨p, vs, rfl, hp, r1⟩ := rx
    exact .inl ⟨vs, SqL.of hp, by rw [← isEmpty_len r1.length]; exact (Option.some.inj h).symm⟩
  · obtain ⟨p, vs, rfl, hp, r1⟩ := rep_tup rx
    exact .inr (.inl ⟨vs, hp, by rw [← isEmpty_len r1.length]; exact (Option.some.inj h).symm⟩)
  · obtain ⟨p, vs, rfl, hp, hl, r1⟩ := rx
    exact .inr (.inr ⟨_, hp, by rw [isEmpty_sKeys hl]; exact (Option.some.inj h).symm⟩)
  · cases h
theorem pt_tru (ha : PDw X Y a fa) (he : ∀ whole, isTrue a X.env whole = (do let v ← whole; standAt a.pos; holding [v] (truthy v)) := by intro _; rfl) : PDT X Y a (tTru fa) := fun k => impPT (pt_truth (ha k) he) fun σ H Q h => by
  obtain ⟨O, ρ, s, q⟩ := h
  refine ⟨O, ρ, s, ?_⟩
  unfold tTru at q
  cases ea : fa ρ with
  | ex e => rw [ea] at q; exact q
  | no => rw [ea] at q; exact q
  | ok dx =>
    rw [ea] at q
    simp only [R.bind_ok] at q
    intro x H1 s1 rx
    cases e : truD dx with
    | none => rw [e] at q; exact q.elim
    | some kk =>
      rw [e] at q
      rw [k.K]
      exact ⟨kk, tru_rep rx e, q H1 s1⟩
theorem BPost.fwd {O : Addr → Prop} {σ : L2.St} {H H1 : Hp} {Q : Bool → Hp → Prop} {r : R Bool} (s : Same H H1) (h : BPost Y O σ H Q r) : BPost Y O σ H1 Q r := by
  cases r with
  | ok d => exact fun H' s' => h H' (s.trans s')
  | ex e => exact ex_fwd s h
  | no => exact h
theorem EPost.fwd {O : Addr → Prop} {σ : L2.St} {H H1 : Hp} {Q : VK} {r : R D} (s : Same H H1) (h : EPost Y O σ H Q r) : EPost Y O σ H1 Q r := by
  cases r with
  | ok d => exact fun v H' s' rv => h v H' (s.trans s') rv
  | ex e => exact ex_fwd s h
  | no => exact h
/-- a test, then something -/
theorem test_then {α : Type} {σ : L2.St} {H : Hp} {ρ : DEnv} {O : Addr → Prop} {P : R α → Prop} {k : Bool → R α} {Q : Bool → Hp → Prop} (s : SR Y O ρ σ H) (he : ∀ e, P (.ex e) → ∀ c od H', Same H H' → ExRep Y.G (Zo Y.Ze O) H' e c od → Y.E c od σ H') (hn : ¬ P .no)
    (h : P ((ga ρ).bind k)) (hq : ∀ b, ga ρ = .ok b → P (k b) → ∀ H1, Same H H1 → Q b H1) : tDT Y ga σ H Q := by
  refine ⟨O, ρ, s, ?_⟩
  cases ea : ga ρ with
  | ex e => rw [ea] at h; exact he e h
  | no => rw [ea] at h; exact hn h
  | ok b => rw [ea] at h; exact fun H1 s1 => hq b ea h H1 s1
theorem pw_and1' (ha : PDT X Y a ga) : PDTw X Y (.BoolOp .And [a] pos) ga := fun k => pw_and1 (ha k)
theorem pw_or1' (ha : PDT X Y a ga) : PDTw X Y (.BoolOp .Or [a] pos) ga := fun k => pw_or1 (ha k)
theorem pw_and' {rest : List Expr} (ha : PDT X Y a ga) (hb : PDTw X Y (.BoolOp .And (b :: rest) pos) gb) : PDTw X Y (.BoolOp .And (a :: b :: rest) pos) (tAndD ga gb) := fun k => impPW (pw_and (ha k) (hb k)) fun σ H Q ⟨O, ρ, s, q⟩ => by
  refine test_then (P := BPost Y O σ H Q) (k := fun k => if k then gb ρ else .ok false) s (fun e h => h) (fun h => h) q fun b eb hp H1 s1 => ?_
  cases b with
  | true => exact ⟨O, ρ, s.same s1, BPost.fwd s1 hp⟩
  | false => exact hp H1 s1
theorem pw_or' {rest : List Expr} (ha : PDT X Y a ga) (hb : PDTw X Y (.BoolOp .Or (b :: rest) pos) gb) : PDTw X Y (.BoolOp .Or (a :: b :: rest) pos) (tOrD ga gb) := fun k => impPW (pw_or (ha k) (hb k)) fun σ H Q ⟨O, ρ, s, q⟩ => by
  refine test_then (P := BPost Y O σ H Q) (k := fun k => if k then .ok true else gb ρ) s (fun e h => h) (fun h => h) q fun b eb hp H1 s1 => ?_
  cases b with
  | true => exact hp H1 s1
  | false => exact ⟨O, ρ, s.same s1, BPost.fwd s1 hp⟩
theorem pt_bo (h : PDTw X Y e ga) : PDT X Y e ga := fun k => (h k).pt
theorem pt_not' (ha : PDT X Y a ga) : PDT X Y (.UnaryOp .Not a pos) (tNotD ga) := fun k => impPT (pt_not (ha k)) fun σ H Q ⟨O, ρ, s, q⟩ => by
  exact test_then (P := BPost Y O σ H Q) (k := fun k => .ok (!k)) s (fun e h => h) (fun h => h) q fun b eb hp H1 s1 => hp H1 s1
theorem pd_neg (ha : PDw X Y a fa) : PD X Y (.UnaryOp .USub a pos) (e1 oNeg fa) := pd_un (r := rU fun i => .int (-i)) (fun _ => un_neg) (fun _ Z H x dx Q zt rx q => by
  unfold oNeg at q
  split at q
  · exact ⟨_, rx, q _ H (Same.refl H) rfl⟩
  · exact q.elim) ha
end
end Tw

namespace Tw
open PySem
/-- C(.., k = v, ..) by data -/
def eMkK (n m : Nat) (cn : String) (gD : List D → List D → List D) (init : D → List D → R (D × D)) (as ks : DA) : DE := fun ρ => (as ρ).bind fun xs => (ks ρ).bind fun ys => if xs.length = n ∧ ys.length = m then mkD cn init (gD xs ys) else .no
/-- x in o, o an object with its own __contains__ -/
def eRM (c : String) (f : List D → R D) (a o : DE) : DE := fun ρ => (a ρ).bind fun x => (o ρ).bind fun y => match y with
  | .obj c' ks vs => if c' = c then (f [.obj c' ks vs, x]).bind fun r => match r with | .bl b => .ok (.bl b) | _ => .no else .no
  | _ => .no
def eRMn (c : String) (f : List D → R D) (a o : DE) : DE := fun ρ => (a ρ).bind fun x => (o ρ).bind fun y => match y with
  | .obj c' ks vs => if c' = c then (f [.obj c' ks vs, x]).bind fun r => match r with | .bl b => .ok (.bl (!b)) | _ => .no else .no
  | _ => .no
/-- a op b, the class of a with its own method; b is an object of one of the classes cs -/
def eOp (c : String) (cs : List String) (f : List D → R D) (a b : DE) : DE := fun ρ => (a ρ).bind fun x => (b ρ).bind fun y => match x, y with
  | .obj c1 ks vs, .obj c2 ks2 vs2 => if c1 = c ∧ c2 ∈ cs then f [.obj c1 ks vs, .obj c2 ks2 vs2] else .no
  | _, _ => .no
/-- o[t], o an object with its own __getitem__ -/
def eIxO (c : String) (f : List D → R D) (a b : DE) : DE := fun ρ => (a ρ).bind fun x => (b ρ).bind fun y => match x with
  | .obj c' ks vs => if c' = c then f [.obj c' ks vs, y] else .no
  | _ => .no
/-- what a for walks in an object whose __iter__ hands on its field's list -/
def itO (c : String) (f : Str) : D → Option (List D)
  | .obj c' ks vs => if c' = c then (match lookD ks vs f with | some (.lst l) => some l | _ => none) else none
  | _ => none
def iOwn (c : String) (f : Str) (a : DE) : DI := fun ρ => (a ρ).bind fun x => R.of (itO c f x)
end Tw

set_option maxHeartbeats 2000000
namespace Tw
open PySem PySem.Spec L2
open PyProof.Rows hiding St
def DPost (G : Gc) (Ze : Addr → Prop) (H : Hp) (Q : VK) (E : XK) : R D → Prop
  | .ok d => ∀ v H', Same H H' → Rep G Ze H' d v → Q v H'
  | .ex e => ∀ c od H', Same H H' → ExRep G Ze H' e c od → E c od H'
  | .no => False
/-- a def that reads data and gives data -/
def dsp (G : Gc) (den : List D → R D) : Sp := fun vs H Q E => ∃ Ze ds, (∀ a, Ze a → H a ≠ none) ∧ RepL G Ze H ds vs ∧ DPost G Ze H Q E (den ds)
/-- an object of the text's classes at a -/
def ObjAt (G : Gc) (Z : Addr → Prop) (H : Hp) (a : Addr) (s : D) : Prop :=
  ∃ c ks l dx vs, s = .obj c ks l ∧ H a = some (.ins (G.cm c) dx (fKeys ks vs)) ∧ (ks.length = vs.length ∧ OkO G c ks) ∧ RepL G Z H l vs
def IPost (G : Gc) (Ze : Addr → Prop) (a : Addr) (H : Hp) (Q : VK) (E : XK) : R (D × D) → Prop
  | .ok p => ∀ v H', (∀ b o, b ≠ a → H b = some o → H' b = some o) → ObjAt G Ze H' a p.2 → Rep G Ze H' p.1 v → Q v H'
  | .ex e => ∀ c od H', (∀ b o, b ≠ a → H b = some o → H' b = some o) → H' a ≠ none → ExRep G Ze H' e c od → E c od H'
  | .no => False
/-- an __init__ -/
def dspM (G : Gc) (init : D → List D → R (D × D)) : Sp := fun vs H Q E => ∃ Ze a s us ds, vs = .ref a :: us ∧ Ze a ∧ (∀ b, Ze b → H b ≠ none) ∧ ObjAt G Ze H a s ∧ RepL G Ze H ds us ∧ IPost G Ze a H Q E (init s ds)
/-- a def of the text under the name x: its meaning, its level -/
def Fk (P : Program) (w : World) (K : PySem.W.Frag) (mg : Str → Option Value) (base : Heap) (G : Gc) (x : Str) (den : List D → R D) (j : Nat) : Prop :=
  ∃ f fd ps, FnOk P w K mg base (L2.CX P w) j f fd ps (dsp G den) ∧ mg x = some (.ref f) ∧ PySem.W.keepIn K (.ref f) = true ∧ Binds K fd ps []
/-- the making of an object of the class c (the name x), all arguments written -/
def Ck (P : Program) (w : World) (K : PySem.W.Frag) (mg : Str → Option Value) (base : Heap) (G : Gc) (x : Str) (c : String) (init : D → List D → R (D × D)) (j : Nat) : Prop :=
  ∃ f fd ps, FnOk P w K mg base (L2.CX P w) j f fd ps (dspM G init) ∧ Mk K (G.cm c) f ∧ mg x = some (.ref (G.cm c)) ∧ Binds K fd ps [] ∧ G.has c
/-- .. with keywords: n places written, the keywords ks, gD how they come together -/
def CkK (P : Program) (w : World) (K : PySem.W.Frag) (mg : Str → Option Value) (base : Heap) (G : Gc) (x : Str) (c : String) (n : Nat) (ks : List Str) (gD : List D → List D → List D) (init : D → List D → R (D × D)) (j : Nat) : Prop :=
  ∃ (f : Addr) (fd : FuncData) (ps : List Str) (g : List Value → List Value → List Value) (gV : List V → List V → List V), FnOk P w K mg base (L2.CX P w) j f fd ps (dspM G init) ∧ Mk K (G.cm c) f ∧ mg x = some (.ref (G.cm c)) ∧ KBn K fd ps (n + 1) ks g (fun vs zs => match vs with | v :: r => v :: gV r zs | [] => gV [] zs) ∧ G.has c ∧
    ∀ Z H ds es vs us, ds.length = n → es.length = ks.length → RepL G Z H ds vs → RepL G Z H es us → RepL G Z H (gD ds es) (gV vs us)
section
variable {X : Cx} {CX : CXT} {k : Nat} {f C : Addr} {fd : FuncData} {ps : List Str} {sp : Sp} {dvs : List V} {ds : List Value} {E : L2.St → XK} {x m : Str} {p pos apos : Pos} {e o : Expr} {es : List Expr} {ta : TE} {t : TA}
def tMethD (C : Addr) (m : Str) (sp : Sp) (E : L2.St → XK) (ta : TE) (t : TA) : TE := fun σ H Q => ta σ H fun x H1 => ∃ a dx fs, x = .ref a ∧ H1 a = some (.ins C dx fs) ∧ fs.lookup m = none ∧ t σ H1 fun vs H2 => sp (x :: vs) H2 Q (E σ)
theorem run_fn0D {pins : List (Addr × Obj)} {σ : L2.St} {H : Hp} {s : Shared} {Q : VK} {us : List Value} {vs : List V} (F : FnOk X.prog X.w X.K X.mg X.base CX k f fd ps sp) (hr : Room k X.A) (hb : Binds X.K fd ps []) (hx : PassesAt CX X σ (E σ))
    (I : Inv X pins σ H s) (r : Vals vs us) (h : sp vs H Q (E σ)) : wpAny (model X.prog X.w) X.A (call (.ref f) us) (EP X pins σ Q) X.xe s :=
  run_fnSD (dvs := []) (ds := []) F hr hb .nil hx I r (by rw [List.append_nil]; exact h)
theorem pe_methD {pl : Sem Bool} (he : PE X o ta) (c : Cls X.K C) (hm : Meth X.K C m f) (F : FnOk X.prog X.w X.K X.mg X.base CX k f fd ps sp) (hr : Room k X.A) (hb : Binds X.K fd ps []) (hx : ∀ σ, PassesAt CX X σ (E σ)) (ha : PA X (e :: es) t)
    (hst : starEach (e :: es) X.env = (false, eval e X.env) :: starEach es X.env := by rfl) (hpl : (backTo pos (starEach es X.env)).any (·.1) = false := by rfl)
    (ht : eval (.Call (.Attribute o m apos) (e :: es) [] pos) X.env = (do
      let ov ← eval o X.env
      standAt apos.atName
      let (f, first) ← holding [ov] (getMethod ov m pl)
      callWith pos f first (backTo pos (starEach (e :: es) X.env)) (backToKw pos (keywordEach [] X.env))) := by rfl) :
    PE X (.Call (.Attribute o m apos) (e :: es) [] pos) (tMethD C m sp E ta t) := by
  refine ⟨fun pins s σ H Q I h => ?_⟩
  refine PySem.W.methodCall_KW (pl := pl) (thn (he.run pins s σ H _ I h) fun u s1 ⟨x, H1, I1, rx, a, dx, fs, ex, ea, l, q⟩ => ?_) ht
  subst ex
  obtain rfl : u = Value.ref a := rx
  refine getmeth_ok I1 ea c hm l ?_
  refine PySem.W.callWith_K (first := [.ref a]) (h₀ := X.base) I.ok.mod.kin hm.kp (thn (ha.run pos pins s1 σ H1 _ I1 q) fun us s2 ⟨vs, H2, I2, r, q2⟩ => ⟨I2.kIn, ?_⟩) hst hpl
  exact run_fn0D (us := .ref a :: us) (vs := .ref a :: vs) F hr hb (hx σ) I2 (.cons rfl r) q2
def tMakeD (C : Addr) (sp : Sp) (E : L2.St → XK) (t : TA) : TE := fun σ H Q => t σ H fun vs H1 => ∀ x dx, H1 x = none → H1 dx = none → dx ≠ x →
  sp (.ref x :: vs) (upd (upd H1 dx (.own x)) x (.ins C dx [])) (fun v H2 => v = .non ∧ Q (.ref x) H2) (E σ)
theorem run_makeD {pins : List (Addr × Obj)} {σ : L2.St} {H : Hp} {s : Shared} {Q : VK} {us : List Value} {vs : List V} (M : Mk X.K C f) (F : FnOk X.prog X.w X.K X.mg X.base CX k f fd ps sp) (hr : Room (k + 1) X.A) (hb : Binds X.K fd ps [])
    (hx : PassesAt CX X σ (E σ)) (I : Inv X pins σ H s) (r : Vals vs us)
    (h : ∀ x dx, H x = none → H dx = none → dx ≠ x → sp (.ref x :: vs) (upd (upd H dx (.own x)) x (.ins C dx [])) (fun v H2 => v = .non ∧ Q (.ref x) H2) (E σ)) :
    wpAny (model X.prog X.w) X.A (call (.ref C) us) (EP X pins σ Q) X.xe s := by
  have hq := h (s.heap.objs.size + 1) s.heap.objs.size (I.hok.fresh (Nat.le_succ _)) (I.hok.fresh (Nat.le_refl _)) (Nat.ne_of_lt (Nat.lt_succ_self _))
  have I2 := Inv.made (C := C) I
  have r2 : Vals (V.ref (s.heap.objs.size + 1) :: vs) (Value.ref (s.heap.objs.size + 1) :: us) := .cons rfl r
  have hl : (Value.ref (s.heap.objs.size + 1) :: us ++ []).length = ps.length := by
    have e := r2.length
    rw [F.len _ _ _ _ hq] at e
    rw [List.append_nil]
    exact e.symm
  have hb' := hb _ (Value.ref (s.heap.objs.size + 1) :: us) I2.kIn hl
  rw [List.append_nil] at hb'
  refine wpAny_call (make_map (f := f) I.kIn M.makes M.init (beq_iff_eq.mp M.fn) (codeAny_mono (F.run _ X.stack _ _ ⟨Value.ref (s.heap.objs.size + 1) :: us, []⟩ (Value.ref (s.heap.objs.size + 1) :: us) _ _ (E σ) (hr.make C us [])
    (I2.env0.make C us []) hb' r2 hq) fun r s' hq' => ?_))
  cases r with
  | error e => exact hx pins _ _ e s' I2 hq'
  | ok fl =>
    cases fl with
    | ret u =>
      obtain ⟨v, H', I3, rv, ev, q3⟩ := I2.after hq'
      subst ev
      exact ⟨rv, ⟨V.ref (s.heap.objs.size + 1), H', I3, rfl, q3⟩⟩
    | next => exact False.elim hq'
    | brk => exact False.elim hq'
    | cont => exact False.elim hq'
theorem pe_makeD (M : Mk X.K C f) (F : FnOk X.prog X.w X.K X.mg X.base CX k f fd ps sp) (hr : Room (k + 1) X.A) (hg : Gl X x) (hm : X.mg x = some (.ref C)) (hb : Binds X.K fd ps []) (hx : ∀ σ, PassesAt CX X σ (E σ))
    (ha : PA X (e :: es) t) (hdb : (x == ("__debug__" : Str)) = false := by decide) (he : starEach (e :: es) X.env = (false, eval e X.env) :: starEach es X.env := by rfl) (hpl : (backTo pos (starEach es X.env)).any (·.1) = false := by rfl) :
    PE X (.Call (.Name x p) (e :: es) [] pos) (tMakeD C sp E t) := by
  refine ⟨fun pins s σ H Q I h => ?_⟩
  refine wpAny_Call_Name_kw (ld_glob I hg hm ?_ hdb)
  refine PySem.W.callWith_K (h₀ := X.base) I.ok.mod.kin M.kp (thn (ha.run pos pins s σ H _ I h) fun us s1 ⟨vs, H1, I1, r, q⟩ => ⟨I1.kIn, ?_⟩) he hpl
  exact run_makeD M F hr hb (hx σ) I1 r q
def tMakeKD (C : Addr) (n m : Nat) (sp : Sp) (gV : List V → List V → List V) (E : L2.St → XK) (t tk : TA) : TE := fun σ H Q => t σ H fun vs H1 => tk σ H1 fun zs H2 => vs.length = n ∧ zs.length = m ∧ ∀ x dx, H2 x = none → H2 dx = none → dx ≠ x →
  sp (gV (.ref x :: vs) zs) (upd (upd H2 dx (.own x)) x (.ins C dx [])) (fun v H3 => v = .non ∧ Q (.ref x) H3) (E σ)
variable {n : Nat} {ks : List Str} {g : List Value → List Value → List Value} {gV : List V → List V → List V} {kws : List Keyword} {tk : TA}
theorem run_makeKD {pins : List (Addr × Obj)} {σ : L2.St} {H : Hp} {s : Shared} {Q : VK} {us ws : List Value} {vs zs : List V} (M : Mk X.K C f) (F : FnOk X.prog X.w X.K X.mg X.base CX k f fd ps sp) (hr : Room (k + 1) X.A) (hb : KBn X.K fd ps (n + 1) ks g gV) (hx : PassesAt CX X σ (E σ))
    (I : Inv X pins σ H s) (r : Vals vs us) (rz : Vals zs ws) (l1 : vs.length = n) (l2 : zs.length = ks.length)
    (h : ∀ x dx, H x = none → H dx = none → dx ≠ x → sp (gV (.ref x :: vs) zs) (upd (upd H dx (.own x)) x (.ins C dx [])) (fun v H2 => v = .non ∧ Q (.ref x) H2) (E σ)) :
    wpAny (model X.prog X.w) X.A (call (.ref C) us (ks.zip ws)) (EP X pins σ Q) X.xe s := by
  have hq := h (s.heap.objs.size + 1) s.heap.objs.size (I.hok.fresh (Nat.le_succ _)) (I.hok.fresh (Nat.le_refl _)) (Nat.ne_of_lt (Nat.lt_succ_self _))
  have I2 := Inv.made (C := C) I
  have r1 : Vals (V.ref (s.heap.objs.size + 1) :: vs) (Value.ref (s.heap.objs.size + 1) :: us) := .cons rfl r
  have r2 := hb.rel r1 rz
  have n1 : (Value.ref (s.heap.objs.size + 1) :: us).length = n + 1 := by
    rw [List.length_cons, ← r.length, l1]
  refine wpAny_call (make_map (f := f) I.kIn M.makes M.init (beq_iff_eq.mp M.fn) (codeAny_mono (F.run _ X.stack _ _ ⟨Value.ref (s.heap.objs.size + 1) :: us, ks.zip ws⟩ (g (Value.ref (s.heap.objs.size + 1) :: us) ws) _ _ (E σ) (hr.make C us (ks.zip ws))
    (I2.env0.make C us (ks.zip ws)) (hb.to _ (Value.ref (s.heap.objs.size + 1) :: us) ws I2.kIn n1 (rz.length.symm.trans l2)) r2 hq) fun r s' hq' => ?_))
  cases r with
  | error e => exact hx pins _ _ e s' I2 hq'
  | ok fl =>
    cases fl with
    | ret u =>
      obtain ⟨v, H', I3, rv, ev, q3⟩ := I2.after hq'
      subst ev
      exact ⟨rv, ⟨V.ref (s.heap.objs.size + 1), H', I3, rfl, q3⟩⟩
    | next => exact False.elim hq'
    | brk => exact False.elim hq'
    | cont => exact False.elim hq'
theorem pe_makeKD (M : Mk X.K C f) (F : FnOk X.prog X.w X.K X.mg X.base CX k f fd ps sp) (hr : Room (k + 1) X.A) (hg : Gl X x) (hm : X.mg x = some (.ref C)) (hb : KBn X.K fd ps (n + 1) ks g gV) (hx : ∀ σ, PassesAt CX X σ (E σ)) (ha : PA X (e :: es) t) (hkw : PK X kws tk)
    (hall : (backToKw pos (keywordEach kws X.env)).all (·.1.isSome) = true := by rfl) (hks : (backToKw pos (keywordEach kws X.env)).filterMap (·.1) = ks := by rfl) (hdb : (x == ("__debug__" : Str)) = false := by decide)
    (he : starEach (e :: es) X.env = (false, eval e X.env) :: starEach es X.env := by rfl) (hpl : ((backTo pos (starEach (e :: es) X.env)).any (·.1) || (backToKw pos (keywordEach kws X.env)).any (·.1.isNone)) = false := by rfl) :
    PE X (.Call (.Name x p) (e :: es) kws pos) (tMakeKD C n ks.length sp gV E t tk) := by
  refine ⟨fun pins s σ H Q I h => ?_⟩
  refine wpAny_Call_Name_kw (ld_glob I hg hm ?_ hdb)
  refine PySem.W.callWith_KW (h₀ := X.base) I.ok.mod.kin M.kp hall (thn (ha.run pos pins s σ H _ I h) fun us s1 ⟨vs, H1, I1, r, q⟩ => ?_) hpl he
  refine thn (hkw.run pos pins s1 σ H1 _ I1 q) fun ws s2 ⟨zs, H2, I2, rz, l1, l2, q2⟩ => ⟨I2.kIn, ?_⟩
  rw [hks]
  exact run_makeKD M F hr hb (hx σ) I2 r rz l1 l2 q2
structure CFn (K : PySem.W.Frag) (C : Addr) (m : Str) (g : Addr) : Prop where
  rd : PySem.W.readsIn K C (.type "type") = true
  ga : PySem.W.specialIn K (.ref C) "__getattribute__" = some (some (.builtin "type.__getattribute__"))
  at_ : PySem.W.findCls K (.ref C) (.type "type") m = some (.val (.ref g)) ∨ ∃ p rest, PySem.W.findCls K (.ref C) (.type "type") m = some (.get (.builtin "staticmethod.__get__") (.ref p) .none (.ref C)) ∧ PySem.W.recIn K p "staticmethod" = some (.ref g :: rest)
  kp : PySem.W.keepIn K (.ref g) = true
theorem getm_cfn {pl : Sem Bool} {pins : List (Addr × Obj)} {σ : L2.St} {H : Hp} {s : Shared} {g : Addr} {Q : Value × List Value → Shared → Prop} {A : Around} {E : Value → Shared → Prop} (I : Inv X pins σ H s) (r : CFn X.K C m g)
    (h : ∀ s', Inv X pins σ H s' → Q (.ref g, []) s') : wpAny (model X.prog X.w) A (getMethod (.ref C) m pl) Q E s := by
  refine PySem.W.method_cls I.kIn r.ga ?_
  rcases r.at_ with e | ⟨p, rest, e, hp⟩
  · exact PySem.W.cls_value I.kIn r.rd e rfl (h _ (I.tok _))
  · refine PySem.W.cls_bind I.kIn r.rd e ?_
    exact wpAny_call (PySem.W.sm_get (s := { s with toks := s.toks + 1 }) I.kIn hp (PySem.W.handed_on rfl (h _ (I.tok _))))
def tCFn (sp : Sp) (E : L2.St → XK) (t : TA) : TE := fun σ H Q => t σ H fun vs H1 => sp vs H1 Q (E σ)
theorem pe_cfn {pl : Sem Bool} {g : Addr} {xc : Str} {pc : Pos} (hg : Gl X xc) (hmc : X.mg xc = some (.ref C)) (r : CFn X.K C m g) (F : FnOk X.prog X.w X.K X.mg X.base CX k g fd ps sp) (hr : Room k X.A) (hb : Binds X.K fd ps []) (hx : ∀ σ, PassesAt CX X σ (E σ)) (ha : PA X (e :: es) t)
    (hdb : (xc == ("__debug__" : Str)) = false := by decide) (hst : starEach (e :: es) X.env = (false, eval e X.env) :: starEach es X.env := by rfl) (hpl : (backTo pos (starEach es X.env)).any (·.1) = false := by rfl)
    (ht : eval (.Call (.Attribute (.Name xc pc) m apos) (e :: es) [] pos) X.env = (do
      let ov ← eval (.Name xc pc) X.env
      standAt apos.atName
      let (f, first) ← holding [ov] (getMethod ov m pl)
      callWith pos f first (backTo pos (starEach (e :: es) X.env)) (backToKw pos (keywordEach [] X.env))) := by rfl) :
    PE X (.Call (.Attribute (.Name xc pc) m apos) (e :: es) [] pos) (tCFn sp E t) := by
  refine ⟨fun pins s σ H Q I h => ?_⟩
  refine PySem.W.methodCall_KW (pl := pl) (ld_glob I hg hmc ?_ hdb) ht
  refine getm_cfn I r fun s1 I1 => ?_
  refine PySem.W.callWith_K (first := []) (h₀ := X.base) I.ok.mod.kin r.kp (thn (ha.run pos pins s1 σ H _ I1 h) fun us s2 ⟨vs, H2, I2, rv, q2⟩ => ⟨I2.kIn, ?_⟩) hst hpl
  exact run_fn0D F hr hb (hx σ) I2 rv q2
end
section
variable {X : Cx} {Y : Cy} {a b c e o : Expr} {es : List Expr} {fa fb fc fo : DE} {fs : DA} {pos p p2 apos pc : Pos} {x m xc : Str} {den : List D → R D} {init : D → List D → R (D × D)} {j n : Nat}
/-- what a callee's promise asks, from what is wanted of its answer -/
theorem dsp_of {O : Addr → Prop} {σ : L2.St} {ρ : DEnv} {H : Hp} {Q : VK} {ds : List D} {vs : List V} (s : SR Y O ρ σ H) (r : RepL Y.G (Zo Y.Ze O) H ds vs) (h : EPost Y O σ H Q (den ds)) : dsp Y.G den vs H Q (WE Y.E σ) := by
  refine ⟨Zo Y.Ze O, ds, s.zt, r, ?_⟩
  cases e : den ds with
  | ok d => rw [e] at h; exact h
  | ex x => rw [e] at h; exact h
  | no => rw [e] at h; exact h
theorem call_imp (σ : L2.St) (H : Hp) (Q : VK) (h : tD Y (eCall den fs) σ H Q) : tDA Y fs σ H (fun vs H1 => dsp Y.G den vs H1 Q (WE Y.E σ)) := by
  obtain ⟨O, ρ, s, q⟩ := h
  refine ⟨O, ρ, s, ?_⟩
  unfold eCall at q
  cases ea : fs ρ with
  | ex e => rw [ea] at q; exact q
  | no => rw [ea] at q; exact q
  | ok ds =>
    rw [ea] at q
    intro vs H1 s1 rs
    exact dsp_of (s.same s1) rs (EPost.fwd s1 q)
theorem pd_call (F : Fk X.prog X.w X.K X.mg X.base Y.G x den j) (hj : j ≤ Y.lv) (hg : Gl X x) (ha : PDA X Y (e :: es) fs) (hdb : (x == ("__debug__" : Str)) = false := by decide) (he : starEach (e :: es) X.env = (false, eval e X.env) :: starEach es X.env := by rfl)
    (hpl : (backTo pos (starEach es X.env)).any (·.1) = false := by rfl) (hca : Y.ca = true := by rfl) : PD X Y (.Call (.Name x p) (e :: es) [] pos) (eCall den fs) := fun k => by
  obtain ⟨f, fd, ps, F, hm, hk, hb⟩ := F
  refine impPE (pe_callSD (E := WE Y.E) (dvs := []) F ((k.room hca).mono hj) hg hm hk hb .nil (fun σ => passAt k.tk σ) (ha k) hdb he hpl) fun σ H Q h => ?_
  have := call_imp σ H Q h
  unfold tCallSD
  simpa only [List.append_nil] using this
theorem pd_cfn {pl : Sem Bool} {C g : Addr} {fd : FuncData} {ps : List Str} (hg : Gl X xc) (hmc : X.mg xc = some (.ref C)) (r : CFn X.K C m g) (F : FnOk X.prog X.w X.K X.mg X.base (L2.CX X.prog X.w) j g fd ps (dsp Y.G den)) (hb : Binds X.K fd ps []) (hj : j ≤ Y.lv) (ha : PDA X Y (e :: es) fs)
    (hdb : (xc == ("__debug__" : Str)) = false := by decide) (hst : starEach (e :: es) X.env = (false, eval e X.env) :: starEach es X.env := by rfl) (hpl : (backTo pos (starEach es X.env)).any (·.1) = false := by rfl)
    (ht : eval (.Call (.Attribute (.Name xc pc) m apos) (e :: es) [] pos) X.env = (do
      let ov ← eval (.Name xc pc) X.env
      standAt apos.atName
      let (f, first) ← holding [ov] (getMethod ov m pl)
      callWith pos f first (backTo pos (starEach (e :: es) X.env)) (backToKw pos (keywordEach [] X.env))) := by rfl) (hca : Y.ca = true := by rfl) :
    PD X Y (.Call (.Attribute (.Name xc pc) m apos) (e :: es) [] pos) (eCall den fs) := fun k =>
  impPE (pe_cfn (E := WE Y.E) hg hmc r F ((k.room hca).mono hj) hb (fun σ => passAt k.tk σ) (ha k) hdb hst hpl ht) fun σ H Q h => call_imp σ H Q h
theorem no_look : ∀ {ks : List Str} {vs : List V} {m : Str}, m ∉ ks → (fKeys ks vs).lookup m = none
  | [], vs, m, _ => by cases vs <;> rfl
  | k :: ks, [], m, _ => rfl
  | k :: ks, v :: vs, m, h => by
    have h1 : (m == k) = false := beq_eq_false_iff_ne.mpr fun q => h (by rw [q]; exact List.mem_cons_self)
    simp only [fKeys, List.lookup_cons, h1]
    exact no_look fun q => h (List.mem_cons_of_mem _ q)
/-- the promise of an __init__ at the new object -/
theorem make_of {cn : String} {O : Addr → Prop} {σ : L2.St} {ρ : DEnv} {H : Hp} {Q : VK} {ds : List D} {vs : List V} (hc : Y.G.has cn) (s : SR Y O ρ σ H) (r : RepL Y.G (Zo Y.Ze O) H ds vs) (h : EPost Y O σ H Q (mkD cn init ds)) (x dx : Addr) (hx : H x = none) (hd : H dx = none) (ne : dx ≠ x) :
    dspM Y.G init (.ref x :: vs) (upd (upd H dx (.own x)) x (.ins (Y.G.cm cn) dx [])) (fun v H2 => v = .non ∧ Q (.ref x) H2) (WE Y.E σ) := by
  have s1 : Same H (upd (upd H dx (.own x)) x (.ins (Y.G.cm cn) dx [])) := fun b o e => by
    rw [upd_ne (ne_of_none e hx), upd_ne (ne_of_none e hd)]
    exact e
  have hz : ∀ b, (fun b => Zo Y.Ze O b ∨ b = x) b → upd (upd H dx (.own x)) x (.ins (Y.G.cm cn) dx []) b ≠ none := fun b z q => by
    rcases z with z | rfl
    · exact s.zt b z (s1.free q)
    · rw [upd_same] at q; cases q
  have r1 : RepL Y.G (fun b => Zo Y.Ze O b ∨ b = x) (upd (upd H dx (.own x)) x (.ins (Y.G.cm cn) dx [])) ds vs :=
    RepL.mono (Same.sub s1) (fun b z => z.elim .inl fun e => .inr (by rw [e]; exact hx)) r
  refine ⟨fun b => Zo Y.Ze O b ∨ b = x, x, .obj cn [] [], vs, ds, rfl, .inr rfl, hz, ⟨cn, [], [], dx, [], rfl, upd_same, ⟨rfl, hc, fun f z => by cases z⟩, rfl⟩, r1, ?_⟩
  unfold mkD at h
  cases e : init (.obj cn [] []) ds with
  | no => rw [e] at h; exact h
  | ex y =>
    rw [e] at h
    intro c od H' s' _ xr
    refine h c od H' (fun b o q => s' b o (ne_of_none q hx) (s1 b o q)) ?_
    obtain ⟨e1, d, us, e2, e3, e4, e5⟩ := xr
    exact ⟨e1, d, us, e2, e3, e4, e5.weak fun b z => .inl z⟩
  | ok p =>
    rw [e] at h
    obtain ⟨d, s'⟩ := p
    simp only [R.bind_ok] at h
    cases d with
    | non =>
      intro v H' sm ob rv
      refine ⟨rv, h _ H' (fun b o q => sm b o (ne_of_none q hx) (s1 b o q)) ?_⟩
      obtain ⟨c, ks, l, dx', us, e1, e2, e3, e4⟩ := ob
      have e1 : s' = .obj c ks l := e1
      subst e1
      exact ⟨x, dx', us, rfl, fun z => s.zt x z hx, e2, e3, e4.weak fun b z => .inl z⟩
    | _ => exact h.elim
theorem make_imp {cn : String} {t : TA} (hc : Y.G.has cn) (σ : L2.St) (H : Hp) (Q : VK) (ht : ∀ σ H Q, tDA Y fs σ H Q → t σ H Q) (h : tD Y (eCall (mkD cn init) fs) σ H Q) : tMakeD (Y.G.cm cn) (dspM Y.G init) (WE Y.E) t σ H Q := by
  obtain ⟨O, ρ, s, q⟩ := h
  refine ht σ H _ ⟨O, ρ, s, ?_⟩
  unfold eCall at q
  cases ea : fs ρ with
  | ex e => rw [ea] at q; exact q
  | no => rw [ea] at q; exact q
  | ok ds =>
    rw [ea] at q
    intro vs H1 s1 rs x dx hx hd ne
    exact make_of hc (s.same s1) rs (EPost.fwd s1 q) x dx hx hd ne
theorem pd_make {cn : String} (M : Ck X.prog X.w X.K X.mg X.base Y.G x cn init j) (hj : j + 1 ≤ Y.lv) (hg : Gl X x) (ha : PDA X Y (e :: es) fs) (hdb : (x == ("__debug__" : Str)) = false := by decide) (he : starEach (e :: es) X.env = (false, eval e X.env) :: starEach es X.env := by rfl)
    (hpl : (backTo pos (starEach es X.env)).any (·.1) = false := by rfl) (hca : Y.ca = true := by rfl) : PD X Y (.Call (.Name x p) (e :: es) [] pos) (eCall (mkD cn init) fs) := fun k => by
  obtain ⟨f, fd, ps, F, hk, hm, hb, hc⟩ := M
  exact impPE (pe_makeD (E := WE Y.E) hk F ((k.room hca).mono hj) hg hm hb (fun σ => passAt k.tk σ) (ha k) hdb he hpl) fun σ H Q h => make_imp hc σ H Q (fun _ _ _ q => q) h
def PDK (X : Cx) (Y : Cy) (kws : List Keyword) (f : DA) : Prop := Lk X Y → PK X kws (tDA Y f)
theorem impPK {X : Cx} {kws : List Keyword} {t t' : TA} (h : PK X kws t) (i : ∀ σ H Q, t' σ H Q → t σ H Q) : PK X kws t' := ⟨fun p pins s σ H Q I q => h.run p pins s σ H Q I (i σ H Q q)⟩
theorem dk_nil : PDK X Y [] aNil := fun k => impPK pk_nil fun σ H Q ⟨O, ρ, s, q⟩ => q [] H (Same.refl H) rfl
theorem dk_cons {kws : List Keyword} {nm : Option Str} {kpos : Pos} (ha : PD X Y a fa) (hr : PDK X Y kws fs) : PDK X Y (⟨nm, a, kpos⟩ :: kws) (aCons fa fs) := fun k => impPK (pk_cons (ha k) (hr k)) fun σ H Q ⟨O, ρ, s, q⟩ => by
  refine ⟨O, ρ, s, ?_⟩
  unfold aCons at q
  cases ea : fa ρ with
  | ex e => rw [ea] at q; exact q
  | no => rw [ea] at q; exact q
  | ok dx =>
    rw [ea] at q
    simp only [R.bind_ok] at q
    intro x H1 s1 rx
    refine ⟨O, ρ, s.same s1, ?_⟩
    cases eb : fs ρ with
    | ex e => rw [eb] at q; exact ex_fwd s1 q
    | no => rw [eb] at q; exact q
    | ok ds =>
      rw [eb] at q
      intro vs H2 s2 rs
      exact q _ H2 (s1.trans s2) (RepL.cons (rx.same s2) rs)
theorem pd_makeK {cn : String} {ks : List Str} {gD : List D → List D → List D} {kws : List Keyword} {fk : DA} {m : Nat} (M : CkK X.prog X.w X.K X.mg X.base Y.G x cn n ks gD init j) (hj : j + 1 ≤ Y.lv) (hg : Gl X x) (ha : PDA X Y (e :: es) fs) (hkw : PDK X Y kws fk) (hkl : ks.length = m)
    (hall : (backToKw pos (keywordEach kws X.env)).all (·.1.isSome) = true := by rfl) (hks : (backToKw pos (keywordEach kws X.env)).filterMap (·.1) = ks := by rfl) (hdb : (x == ("__debug__" : Str)) = false := by decide)
    (he : starEach (e :: es) X.env = (false, eval e X.env) :: starEach es X.env := by rfl) (hpl : ((backTo pos (starEach (e :: es) X.env)).any (·.1) || (backToKw pos (keywordEach kws X.env)).any (·.1.isNone)) = false := by rfl) (hca : Y.ca = true := by rfl) :
    PD X Y (.Call (.Name x p) (e :: es) kws pos) (eMkK n m cn gD init fs fk) := fun k => by
  subst hkl
  obtain ⟨f, fd, ps, g, gV, F, hk, hm, hb, hc, hr⟩ := M
  refine impPE (pe_makeKD (E := WE Y.E) hk F ((k.room hca).mono hj) hg hm hb (fun σ => passAt k.tk σ) (ha k) (hkw k) hall hks hdb he hpl) fun σ H Q h => ?_
  obtain ⟨O, ρ, s, q⟩ := h
  refine ⟨O, ρ, s, ?_⟩
  unfold eMkK at q
  cases ea : fs ρ with
  | ex e => rw [ea] at q; exact q
  | no => rw [ea] at q; exact q
  | ok ds =>
    rw [ea] at q
    simp only [R.bind_ok] at q
    intro vs H1 s1 rs
    refine ⟨O, ρ, s.same s1, ?_⟩
    cases eb : fk ρ with
    | ex e => rw [eb] at q; exact ex_fwd s1 q
    | no => rw [eb] at q; exact q
    | ok es' =>
      rw [eb] at q
      simp only [R.bind_ok] at q
      intro zs H2 s2 rz
      split at q
      · rename_i hl
        refine ⟨rs.length.symm.trans hl.1, rz.length.symm.trans hl.2, fun x dx hx hd ne => ?_⟩
        exact make_of hc (s.same (s1.trans s2)) (hr _ _ _ _ _ _ hl.1 hl.2 (rs.same s2) rz) (EPost.fwd (s1.trans s2) q) x dx hx hd ne
      · exact q.elim
end
end Tw

set_option maxHeartbeats 2000000
namespace Tw
open PySem PySem.Spec L2
open PyProof.Rows hiding St
section
variable {Y : Cy} {O : Addr → Prop} {ρ : DEnv} {σ : L2.St} {H H' : Hp} {α : Nat → Addr}
theorem isOwn_none {i : Nat} (h : ρ[i]? = some none) : ¬ isOwn ρ i := fun ⟨d, k⟩ => by
  rcases k with k | k | k <;> rw [h] at k <;> cases k
theorem set_at {i j : Nat} {x : Option Slot} {y : Option Slot} (h : (ρ.set i x)[j]? = some y) : (j = i ∧ y = x) ∨ (j ≠ i ∧ ρ[j]? = some y) := by
  by_cases e : j = i
  · subst e
    have hl : j < (ρ.set j x).length := (List.getElem?_eq_some_iff.mp h).1
    rw [List.length_set] at hl
    rw [List.getElem?_set_self hl] at h
    exact .inl ⟨rfl, (Option.some.inj h).symm⟩
  · rw [List.getElem?_set_ne (Ne.symm e)] at h
    exact .inr ⟨e, h⟩
theorem isOwn_set {i j : Nat} {x : Option Slot} (h : isOwn (ρ.set i x) j) : (j = i ∧ ∃ d, x = some (.own d) ∨ x = some (.slf d) ∨ x = some (.gho d)) ∨ (j ≠ i ∧ isOwn ρ j) := by
  obtain ⟨d, h⟩ := h
  rcases h with h | h | h
  all_goals
    rcases set_at h with ⟨e, q⟩ | ⟨e, q⟩
  · exact .inl ⟨e, d, .inl q.symm⟩
  · exact .inr ⟨e, d, .inl q⟩
  · exact .inl ⟨e, d, .inr (.inl q.symm)⟩
  · exact .inr ⟨e, d, .inr (.inl q)⟩
  · exact .inl ⟨e, d, .inr (.inr q.symm)⟩
  · exact .inr ⟨e, d, .inr (.inr q)⟩
theorem RepG.weak {G : Gc} {Z Z' : Addr → Prop} {ρ ρ' : DEnv} (z : ∀ a, Z' a → Z a) (g : ∀ (j : Nat) d, ρ[j]? = some (some (.gho d)) → ∃ d', ρ'[j]? = some (some (.gho d'))) {d : D} {v : V} (h : RepG G Z α ρ H d v) : RepG G Z' α ρ' H d v := by
  cases d with
  | gst j => obtain ⟨e, d', k⟩ := h; exact ⟨e, g j d' k⟩
  | _ => exact Rep.weak z h
theorem RepGL.weak {G : Gc} {Z Z' : Addr → Prop} {ρ ρ' : DEnv} (z : ∀ a, Z' a → Z a) (g : ∀ (j : Nat) d, ρ[j]? = some (some (.gho d)) → ∃ d', ρ'[j]? = some (some (.gho d'))) : ∀ {ds : List D} {vs : List V}, RepGL G Z α ρ H ds vs → RepGL G Z' α ρ' H ds vs
  | [], vs, h => h
  | d :: ds, vs, h => by
    obtain ⟨v, r, e, h1, h2⟩ := h
    exact ⟨v, r, e, RepG.weak z g h1, RepGL.weak z g h2⟩
theorem RepW.weak {G : Gc} {Z Z' : Addr → Prop} (z : ∀ a, Z' a → Z a) {d : D} {v : V} (h : RepW G Z H d v) : RepW G Z' H d v := by
  cases d with
  | lst l => obtain ⟨a, vs, e, t, r⟩ := h; exact ⟨a, vs, e, t, r.weak z⟩
  | dct ks l => obtain ⟨a, vs, e, t, k, r⟩ := h; exact ⟨a, vs, e, t, k, r.weak z⟩
  | obj c ks l => obtain ⟨a, dx, vs, e, t, k, r⟩ := h; exact ⟨a, dx, vs, e, t, k, r.weak z⟩
  | _ => exact Rep.weak z h
theorem ptrA {pt : Nat → V} {ρ : DEnv} {σ : L2.St} {k : Nat} {x : Option Slot} (h : ∀ (i : Nat), ρ[i]? = some (some Slot.ptr) → σ[i]? = some (some (pt i))) (hx : x ≠ some Slot.ptr) : ∀ (i : Nat), (ρ.set k x)[i]? = some (some Slot.ptr) → σ[i]? = some (some (pt i)) := fun i e => by
  rcases set_at e with ⟨_, q⟩ | ⟨_, q⟩
  · exact absurd q.symm hx
  · exact h i q
theorem ptrB {pt : Nat → V} {ρ : DEnv} {σ : L2.St} {k : Nat} {x : Option Slot} {v : Option V} (h : ∀ (i : Nat), ρ[i]? = some (some Slot.ptr) → σ[i]? = some (some (pt i))) (hx : x ≠ some Slot.ptr) : ∀ (i : Nat), (ρ.set k x)[i]? = some (some Slot.ptr) → (σ.set k v)[i]? = some (some (pt i)) := fun i e => by
  rcases set_at e with ⟨_, q⟩ | ⟨n, q⟩
  · exact absurd q.symm hx
  · rw [List.getElem?_set_ne (Ne.symm n)]; exact h i q
/-- a name that holds a value or a container of the def's is forgotten -/
theorem SR.clr {i : Nat} (s : SR Y O ρ σ H) (hi : ∃ x, ρ[i]? = some x ∧ (∀ d, x ≠ some (.slf d)) ∧ ∀ d, x ≠ some (.gho d)) : ∃ O', (∀ a, O' a → O a) ∧ SR Y O' (ρ.set i none) σ H ∧ (¬ isOwn ρ i → ∀ a, O a → O' a) := by
  obtain ⟨α, s⟩ := s
  obtain ⟨x, hx, n1, n2⟩ := hi
  have sub : ∀ j, isOwn (ρ.set i none) j → isOwn ρ j := fun j h => by
    rcases isOwn_set h with ⟨_, d, k | k | k⟩ | ⟨_, k⟩
    · cases k
    · cases k
    · cases k
    · exact k
  have zz : ∀ a, Zo Y.Ze (fun a => ∃ j, isOwn (ρ.set i none) j ∧ α j = a) a → Zo Y.Ze O a := fun a z => z.elim .inl fun ⟨j, k, e⟩ => .inr ((s.oeq a).mpr ⟨j, sub j k, e⟩)
  refine ⟨fun a => ∃ j, isOwn (ρ.set i none) j ∧ α j = a, fun a ⟨j, k, e⟩ => (s.oeq a).mpr ⟨j, sub j k, e⟩, ⟨α, ?_⟩, fun ni a h => ?_⟩
  rotate_left
  · obtain ⟨j, hj, e⟩ := (s.oeq a).mp h
    have hji : j ≠ i := fun e => ni (e ▸ hj)
    obtain ⟨d, hj⟩ := hj
    refine ⟨j, ⟨d, ?_⟩, e⟩
    rw [List.getElem?_set_ne (Ne.symm hji)]
    exact hj
  refine ⟨by rw [List.length_set]; exact s.len, fun j d e => ?_, fun j d e => ?_, fun j d e => ?_, fun j d e => ?_, fun j k hj hk e => s.inj j k (sub j hj) (sub k hk) e, fun a => Iff.rfl, s.zt, fun a ⟨j, k, e⟩ => s.ot a ((s.oeq a).mpr ⟨j, sub j k, e⟩), ptrA s.ptr (fun q => by cases q)⟩
  · rcases set_at e with ⟨_, q⟩ | ⟨_, q⟩
    · cases q
    · obtain ⟨v, e1, r⟩ := s.val j d q
      exact ⟨v, e1, r.weak zz⟩
  · rcases set_at e with ⟨_, q⟩ | ⟨_, q⟩
    · cases q
    · obtain ⟨e1, n, r⟩ := s.own j d q
      exact ⟨e1, n, r.weak zz⟩
  · rcases set_at e with ⟨_, q⟩ | ⟨_, q⟩
    · cases q
    · obtain ⟨e1, n, c, ks, l, dx, vs, e2, e3, e4, r⟩ := s.slf j d q
      refine ⟨e1, n, c, ks, l, dx, vs, e2, e3, e4, r.weak zz fun k d' hk => ?_⟩
      by_cases hki : k = i
      · subst hki
        rw [hx] at hk
        exact absurd (Option.some.inj hk) (n2 d')
      · exact ⟨d', by rw [List.getElem?_set_ne (Ne.symm hki)]; exact hk⟩
  · rcases set_at e with ⟨_, q⟩ | ⟨_, q⟩
    · cases q
    · obtain ⟨r, k⟩ := s.gho j d q
      exact ⟨r.weak zz, k⟩
/-- a name that holds nothing gets a value -/
theorem SR.putv {i : Nat} {d : D} {v : V} (s : SR Y O ρ σ H) (hi : ρ[i]? = some none) (hn : i < Y.n) (r : Rep Y.G (Zo Y.Ze O) H d v) : SR Y O (ρ.set i (some (.val d))) (σ.set i (some v)) H := by
  obtain ⟨α, s⟩ := s
  have sub : ∀ j, isOwn (ρ.set i (some (.val d))) j ↔ isOwn ρ j := fun j => by
    refine ⟨fun h => ?_, fun h => ?_⟩
    · rcases isOwn_set h with ⟨_, d, k | k | k⟩ | ⟨_, k⟩
      · cases k
      · cases k
      · cases k
      · exact k
    · have hj : j ≠ i := fun e => isOwn_none hi (e ▸ h)
      obtain ⟨d', h⟩ := h
      refine ⟨d', ?_⟩
      rw [List.getElem?_set_ne (Ne.symm hj)]
      exact h
  have hσ : i < σ.length := by rw [s.len.1]; exact hn
  refine ⟨α, by rw [List.length_set, List.length_set]; exact s.len, fun j d' e => ?_, fun j d' e => ?_, fun j d' e => ?_, fun j d' e => ?_, fun j k hj hk e => s.inj j k ((sub j).mp hj) ((sub k).mp hk) e, fun a => ?_, s.zt, s.ot, ptrB s.ptr (fun q => by cases q)⟩
  · rcases set_at e with ⟨rfl, q⟩ | ⟨hj, q⟩
    · cases q
      exact ⟨v, List.getElem?_set_self hσ, r⟩
    · obtain ⟨v, e1, r⟩ := s.val j d' q
      exact ⟨v, by rw [List.getElem?_set_ne (Ne.symm hj)]; exact e1, r⟩
  · rcases set_at e with ⟨rfl, q⟩ | ⟨hj, q⟩
    · cases q
    · obtain ⟨e1, n, r⟩ := s.own j d' q
      exact ⟨by rw [List.getElem?_set_ne (Ne.symm hj)]; exact e1, n, r⟩
  · rcases set_at e with ⟨rfl, q⟩ | ⟨hj, q⟩
    · cases q
    · obtain ⟨e1, n, c, ks, l, dx, vs, e2, e3, e4, r⟩ := s.slf j d' q
      refine ⟨by rw [List.getElem?_set_ne (Ne.symm hj)]; exact e1, n, c, ks, l, dx, vs, e2, e3, e4, r.weak (fun _ z => z) fun k d'' hk => ?_⟩
      by_cases hki : k = i
      · subst hki
        rw [hi] at hk
        cases hk
      · exact ⟨d'', by rw [List.getElem?_set_ne (Ne.symm hki)]; exact hk⟩
  · rcases set_at e with ⟨rfl, q⟩ | ⟨hj, q⟩
    · cases q
    · exact s.gho j d' q
  · rw [s.oeq]
    exact ⟨fun ⟨j, k, e⟩ => ⟨j, (sub j).mpr k, e⟩, fun ⟨j, k, e⟩ => ⟨j, (sub j).mp k, e⟩⟩
theorem RepW.mono {G : Gc} {Z Z' : Addr → Prop} (s : Same H H') (z : ∀ a, Z' a → Z a ∨ H a = none) {d : D} {v : V} (h : RepW G Z H d v) : RepW G Z' H' d v := by
  cases d with
  | lst l => obtain ⟨a, vs, e, t, r⟩ := h; exact ⟨a, vs, e, s _ _ t, r.mono (Same.sub s) z⟩
  | dct ks l => obtain ⟨a, vs, e, t, k, r⟩ := h; exact ⟨a, vs, e, s _ _ t, k, r.mono (Same.sub s) z⟩
  | obj c ks l => obtain ⟨a, dx, vs, e, t, k, r⟩ := h; exact ⟨a, dx, vs, e, s _ _ t, k, r.mono (Same.sub s) z⟩
  | _ => exact Rep.mono (Same.sub s) z h
theorem RepGL.mono {G : Gc} {Z Z' : Addr → Prop} {ρ ρ' : DEnv} {α' : Nat → Addr} (s : Same H H') (z : ∀ a, Z' a → Z a ∨ H a = none) (g : ∀ (j : Nat) d, ρ[j]? = some (some (.gho d)) → α' j = α j ∧ ∃ d', ρ'[j]? = some (some (.gho d'))) :
    ∀ {ds : List D} {vs : List V}, RepGL G Z α ρ H ds vs → RepGL G Z' α' ρ' H' ds vs
  | [], vs, h => h
  | d :: ds, vs, h => by
    obtain ⟨v, r, e, h1, h2⟩ := h
    refine ⟨v, r, e, ?_, RepGL.mono s z g h2⟩
    cases d with
    | gst j => obtain ⟨e, d', k⟩ := h1; obtain ⟨e2, d2⟩ := g j d' k; exact ⟨by rw [e2]; exact e, d2⟩
    | _ => exact Rep.mono (Same.sub s) z h1
/-- .. a container of its own -/
theorem SR.puto {i : Nat} {d : D} {p : Addr} (s : SR Y O ρ σ H) (sm : Same H H') (hp0 : H p = none) (hi : ρ[i]? = some none) (hn : i < Y.n) (hp : H' p ≠ none) (r : RepW Y.G (fun a => Zo Y.Ze O a ∨ a = p) H' d (.ref p)) :
    SR Y (fun a => O a ∨ a = p) (ρ.set i (some (.own d))) (σ.set i (some (.ref p))) H' := by
  have zt := s.zt
  obtain ⟨α, s⟩ := s
  have hz : ¬ Zo Y.Ze O p := fun z => zt p z hp0
  have hσ : i < σ.length := by rw [s.len.1]; exact hn
  have hl : i < ρ.length := (List.getElem?_eq_some_iff.mp hi).1
  have sub : ∀ j, isOwn (ρ.set i (some (.own d))) j ↔ j = i ∨ isOwn ρ j := fun j => by
    refine ⟨fun h => ?_, fun h => ?_⟩
    · rcases isOwn_set h with ⟨e, _⟩ | ⟨_, k⟩
      · exact .inl e
      · exact .inr k
    · by_cases hj : j = i
      · subst hj
        exact ⟨d, .inl (List.getElem?_set_self hl)⟩
      · rcases h with h | h
        · exact absurd h hj
        · obtain ⟨d', h⟩ := h
          refine ⟨d', ?_⟩
          rw [List.getElem?_set_ne (Ne.symm hj)]
          exact h
  have zz : ∀ a, Zo Y.Ze (fun a => O a ∨ a = p) a → Zo Y.Ze O a ∨ H a = none := fun a z => by
    rcases z with z | z | rfl
    · exact .inl (.inl z)
    · exact .inl (.inr z)
    · exact .inr hp0
  have aj : ∀ j, isOwn ρ j → (if j = i then p else α j) = α j ∧ α j ≠ p := fun j h => by
    have hj : j ≠ i := fun e => isOwn_none hi (e ▸ h)
    exact ⟨if_neg hj, fun e => hz (.inr (e ▸ (s.oeq _).mpr ⟨j, h, rfl⟩))⟩
  refine ⟨fun j => if j = i then p else α j, by rw [List.length_set, List.length_set]; exact s.len, fun j d' e => ?_, fun j d' e => ?_, fun j d' e => ?_, fun j d' e => ?_, fun j k hj hk e => ?_, fun a => ?_, fun a z q => s.zt a z (sm.free q), fun a z => ?_, ptrB s.ptr (fun q => by cases q)⟩
  · rcases set_at e with ⟨rfl, q⟩ | ⟨hj, q⟩
    · cases q
    · obtain ⟨v, e1, r⟩ := s.val j d' q
      exact ⟨v, by rw [List.getElem?_set_ne (Ne.symm hj)]; exact e1, r.mono (Same.sub sm) zz⟩
  · rcases set_at e with ⟨rfl, q⟩ | ⟨hj, q⟩
    · cases q
      rw [if_pos rfl]
      exact ⟨List.getElem?_set_self hσ, fun z => hz (.inl z), r.weak fun a z => by rcases z with z | z | z; exact .inl (.inl z); exact .inl (.inr z); exact .inr z⟩
    · obtain ⟨e1, n, r⟩ := s.own j d' q
      rw [if_neg hj]
      exact ⟨by rw [List.getElem?_set_ne (Ne.symm hj)]; exact e1, n, r.mono sm zz⟩
  · rcases set_at e with ⟨rfl, q⟩ | ⟨hj, q⟩
    · cases q
    · obtain ⟨e1, n, c, ks, l, dx, vs, e2, e3, e4, r⟩ := s.slf j d' q
      rw [if_neg hj]
      refine ⟨by rw [List.getElem?_set_ne (Ne.symm hj)]; exact e1, n, c, ks, l, dx, vs, e2, sm _ _ e3, e4, RepGL.mono sm zz (fun k d'' hk => ?_) r⟩
      have hki : k ≠ i := fun e => by subst e; rw [hi] at hk; cases hk
      exact ⟨if_neg hki, d'', by rw [List.getElem?_set_ne (Ne.symm hki)]; exact hk⟩
  · rcases set_at e with ⟨rfl, q⟩ | ⟨hj, q⟩
    · cases q
    · obtain ⟨r, k⟩ := s.gho j d' q
      rw [if_neg hj]
      exact ⟨r.mono sm zz, k⟩
  · rcases (sub j).mp hj with rfl | hj'
    · rcases (sub k).mp hk with rfl | hk'
      · rfl
      · have e : p = if k = j then p else α k := by rw [if_pos rfl] at e; exact e
        rw [(aj k hk').1] at e
        exact absurd e.symm (aj k hk').2
    · rcases (sub k).mp hk with rfl | hk'
      · have e : (if j = k then p else α j) = p := by rw [if_pos (rfl : k = k)] at e; exact e
        rw [(aj j hj').1] at e
        exact absurd e (aj j hj').2
      · have e : (if j = i then p else α j) = if k = i then p else α k := e
        rw [(aj j hj').1, (aj k hk').1] at e
        exact s.inj j k hj' hk' e
  · refine ⟨fun h => ?_, fun ⟨j, h, e⟩ => ?_⟩
    · rcases h with h | rfl
      · obtain ⟨j, hj, e⟩ := (s.oeq a).mp h
        exact ⟨j, (sub j).mpr (.inr hj), (aj j hj).1.trans e⟩
      · exact ⟨i, (sub i).mpr (.inl rfl), if_pos rfl⟩
    · have e : (if j = i then p else α j) = a := e
      rcases (sub j).mp h with rfl | h
      · rw [if_pos rfl] at e
        exact .inr e.symm
      · rw [(aj j h).1] at e
        exact .inl ((s.oeq a).mpr ⟨j, h, e⟩)
  · rcases z with z | rfl
    · exact fun q => s.ot a z (sm.free q)
    · exact hp
/-- the container is given out -/
theorem SR.frz {i : Nat} {d : D} (s : SR Y O ρ σ H) (hi : ρ[i]? = some (some (.own d))) : ∃ O', (∀ a, O' a → O a) ∧ SR Y O' (ρ.set i (some (.val d))) σ H ∧ ∀ a, O a → O' a ∨ RepW Y.G (Zo Y.Ze O) H d (.ref a) := by
  obtain ⟨α, s⟩ := s
  have hl : i < ρ.length := (List.getElem?_eq_some_iff.mp hi).1
  obtain ⟨ei, ni, ri⟩ := s.own i d hi
  have sub : ∀ j, isOwn (ρ.set i (some (.val d))) j → isOwn ρ j ∧ j ≠ i := fun j h => by
    rcases isOwn_set h with ⟨_, d, k | k | k⟩ | ⟨n, k⟩
    · cases k
    · cases k
    · cases k
    · exact ⟨k, n⟩
  have zz : ∀ a, Zo Y.Ze (fun a => ∃ j, isOwn (ρ.set i (some (.val d))) j ∧ α j = a) a → Zo Y.Ze O a := fun a z => z.elim .inl fun ⟨j, k, e⟩ => .inr ((s.oeq a).mpr ⟨j, (sub j k).1, e⟩)
  have nz : ¬ Zo Y.Ze (fun a => ∃ j, isOwn (ρ.set i (some (.val d))) j ∧ α j = a) (α i) := fun z => by
    rcases z with z | ⟨j, k, e⟩
    · exact ni z
    · exact (sub j k).2 (s.inj j i (sub j k).1 ⟨d, .inl hi⟩ e)
  have rv : Rep Y.G (Zo Y.Ze fun a => ∃ j, isOwn (ρ.set i (some (.val d))) j ∧ α j = a) H d (.ref (α i)) := by
    have r := RepW.weak zz ri
    cases d with
    | lst l => obtain ⟨a, vs, e, t, r⟩ := r; cases e; exact ⟨_, vs, rfl, nz, t, r⟩
    | dct ks l => obtain ⟨a, vs, e, t, k, r⟩ := r; cases e; exact ⟨_, vs, rfl, nz, t, k, r⟩
    | obj c ks l => obtain ⟨a, dx, vs, e, t, k, r⟩ := r; cases e; exact ⟨_, dx, vs, rfl, nz, t, k, r⟩
    | _ => exact r
  refine ⟨fun a => ∃ j, isOwn (ρ.set i (some (.val d))) j ∧ α j = a, fun a ⟨j, k, e⟩ => (s.oeq a).mpr ⟨j, (sub j k).1, e⟩, ⟨α, ?_⟩, fun a h => ?_⟩
  rotate_left
  · obtain ⟨j, hj, e⟩ := (s.oeq a).mp h
    by_cases hji : j = i
    · subst hji
      exact .inr (e ▸ ri)
    · obtain ⟨d', hj⟩ := hj
      refine .inl ⟨j, ⟨d', ?_⟩, e⟩
      rw [List.getElem?_set_ne (Ne.symm hji)]
      exact hj
  refine ⟨by rw [List.length_set]; exact s.len, fun j d' e => ?_, fun j d' e => ?_, fun j d' e => ?_, fun j d' e => ?_, fun j k hj hk e => s.inj j k (sub j hj).1 (sub k hk).1 e, fun a => Iff.rfl, s.zt, fun a ⟨j, k, e⟩ => s.ot a ((s.oeq a).mpr ⟨j, (sub j k).1, e⟩), ptrA s.ptr (fun q => by cases q)⟩
  · rcases set_at e with ⟨rfl, q⟩ | ⟨_, q⟩
    · cases q
      exact ⟨_, ei, rv⟩
    · obtain ⟨v, e1, r⟩ := s.val j d' q
      exact ⟨v, e1, r.weak zz⟩
  · rcases set_at e with ⟨_, q⟩ | ⟨_, q⟩
    · cases q
    · obtain ⟨e1, n, r⟩ := s.own j d' q
      exact ⟨e1, n, r.weak zz⟩
  · rcases set_at e with ⟨_, q⟩ | ⟨_, q⟩
    · cases q
    · obtain ⟨e1, n, c, ks, l, dx, vs, e2, e3, e4, r⟩ := s.slf j d' q
      refine ⟨e1, n, c, ks, l, dx, vs, e2, e3, e4, r.weak zz fun k d'' hk => ?_⟩
      have hki : k ≠ i := fun e => by subst e; rw [hi] at hk; cases hk
      exact ⟨d'', by rw [List.getElem?_set_ne (Ne.symm hki)]; exact hk⟩
  · rcases set_at e with ⟨_, q⟩ | ⟨_, q⟩
    · cases q
    · obtain ⟨r, k⟩ := s.gho j d' q
      exact ⟨r.weak zz, k⟩
/-- the name's container is changed in its place -/
theorem SR.mut {i : Nat} {d d' : D} {o : HO} (s : SR Y O ρ σ H) (hi : ρ[i]? = some (some (.own d))) (k : ∀ p, σ[i]? = some (some (.ref p)) → RepW Y.G (Zo Y.Ze O) H d (.ref p) → H p ≠ none → O p → RepW Y.G (Zo Y.Ze O) (upd H p o) d' (.ref p)) :
    ∃ p, σ[i]? = some (some (.ref p)) ∧ O p ∧ RepW Y.G (Zo Y.Ze O) H d (.ref p) ∧ SR Y O (ρ.set i (some (.own d'))) σ (upd H p o) := by
  obtain ⟨α, s⟩ := s
  have hl : i < ρ.length := (List.getElem?_eq_some_iff.mp hi).1
  obtain ⟨ei, ni, ri⟩ := s.own i d hi
  have oi : isOwn ρ i := ⟨d, .inl hi⟩
  have Oi : O (α i) := (s.oeq _).mpr ⟨i, oi, rfl⟩
  have hne := s.ot _ Oi
  have sub : ∀ j, isOwn (ρ.set i (some (.own d'))) j ↔ isOwn ρ j := fun j => by
    refine ⟨fun h => ?_, fun h => ?_⟩
    · rcases isOwn_set h with ⟨e, _⟩ | ⟨_, k⟩
      · rw [e]; exact oi
      · exact k
    · by_cases hj : j = i
      · subst hj
        exact ⟨d', .inl (List.getElem?_set_self hl)⟩
      · obtain ⟨d'', h⟩ := h
        refine ⟨d'', ?_⟩
        rw [List.getElem?_set_ne (Ne.symm hj)]
        exact h
  have sb : Sub (Zo Y.Ze O) H (upd H (α i) o) := fun a u n e => by
    rw [upd_ne fun q => n (.inr (by rw [q]; exact Oi))]
    exact e
  have an : ∀ j, isOwn ρ j → j ≠ i → α j ≠ α i := fun j h n e => n (s.inj j i h oi e)
  have rw' : ∀ {d : D} {p : Addr}, p ≠ α i → RepW Y.G (Zo Y.Ze O) H d (.ref p) → RepW Y.G (Zo Y.Ze O) (upd H (α i) o) d (.ref p) := fun {d p} hp r => by
    cases d with
    | lst l => obtain ⟨a, vs, e, t, r⟩ := r; cases e; exact ⟨_, vs, rfl, by rw [upd_ne hp]; exact t, r.mono sb fun _ q => .inl q⟩
    | dct ks l => obtain ⟨a, vs, e, t, k, r⟩ := r; cases e; exact ⟨_, vs, rfl, by rw [upd_ne hp]; exact t, k, r.mono sb fun _ q => .inl q⟩
    | obj c ks l => obtain ⟨a, dx, vs, e, t, k, r⟩ := r; cases e; exact ⟨_, dx, vs, rfl, by rw [upd_ne hp]; exact t, k, r.mono sb fun _ q => .inl q⟩
    | _ => exact Rep.mono sb (fun _ q => .inl q) r
  have gl : ∀ {ds : List D} {vs : List V}, RepGL Y.G (Zo Y.Ze O) α ρ H ds vs → RepGL Y.G (Zo Y.Ze O) α (ρ.set i (some (.own d'))) (upd H (α i) o) ds vs := by
    intro ds
    induction ds with
    | nil => intro vs h; exact h
    | cons d ds ih =>
      intro vs h
      obtain ⟨v, r, e, h1, h2⟩ := h
      refine ⟨v, r, e, ?_, ih h2⟩
      cases d with
      | gst j =>
        obtain ⟨e, d'', kk⟩ := h1
        have hki : j ≠ i := fun e => by subst e; rw [hi] at kk; cases kk
        exact ⟨e, d'', by rw [List.getElem?_set_ne (Ne.symm hki)]; exact kk⟩
      | _ => exact Rep.mono sb (fun _ q => .inl q) h1
  refine ⟨α i, ei, Oi, ri, α, by rw [List.length_set]; exact s.len, fun j d'' e => ?_, fun j d'' e => ?_, fun j d'' e => ?_, fun j d'' e => ?_, fun j k hj hk e => s.inj j k ((sub j).mp hj) ((sub k).mp hk) e, fun a => ?_, fun a z q => ?_, fun a z q => ?_, ptrA s.ptr (fun q => by cases q)⟩
  · rcases set_at e with ⟨_, q⟩ | ⟨_, q⟩
    · cases q
    · obtain ⟨v, e1, r⟩ := s.val j d'' q
      exact ⟨v, e1, r.mono sb fun _ q => .inl q⟩
  · rcases set_at e with ⟨rfl, q⟩ | ⟨hj, q⟩
    · cases q
      exact ⟨ei, ni, k _ ei ri hne Oi⟩
    · obtain ⟨e1, n, r⟩ := s.own j d'' q
      exact ⟨e1, n, rw' (an j ⟨d'', .inl q⟩ hj) r⟩
  · rcases set_at e with ⟨_, q⟩ | ⟨hj, q⟩
    · cases q
    · obtain ⟨e1, n, c, ks, l, dx, vs, e2, e3, e4, r⟩ := s.slf j d'' q
      exact ⟨e1, n, c, ks, l, dx, vs, e2, by rw [upd_ne (an j ⟨d'', .inr (.inl q)⟩ hj)]; exact e3, e4, gl r⟩
  · rcases set_at e with ⟨_, q⟩ | ⟨hj, q⟩
    · cases q
    · obtain ⟨r, k⟩ := s.gho j d'' q
      exact ⟨rw' (an j ⟨d'', .inr (.inr q)⟩ hj) r, k⟩
  · rw [s.oeq]
    exact ⟨fun ⟨j, k, e⟩ => ⟨j, (sub j).mpr k, e⟩, fun ⟨j, k, e⟩ => ⟨j, (sub j).mp k, e⟩⟩
  · by_cases h : a = α i
    · subst h; rw [upd_same] at q; cases q
    · rw [upd_ne h] at q; exact s.zt a z q
  · by_cases h : a = α i
    · subst h; rw [upd_same] at q; cases q
    · rw [upd_ne h] at q; exact s.ot a z q
end
end Tw

set_option maxHeartbeats 2000000
namespace Tw
open PySem PySem.Spec L2
open PyProof.Rows hiding St
section
variable {X : Cx} {Y : Cy} {O : Addr → Prop} {ρ : DEnv} {σ : L2.St} {H H' : Hp} {α : Nat → Addr}
theorem Stp.drop {O O' : Addr → Prop} {H : Hp} (h : ∀ a, O' a → O a) : Stp O H O' H := ⟨fun _ _ _ e => e, fun a z => .inl (h a z)⟩
/-- the old content goes -/
theorem SR.free {i : Nat} (s : SR Y O ρ σ H) (hi : ∃ x, ρ[i]? = some x ∧ (∀ d, x ≠ some (.slf d)) ∧ ∀ d, x ≠ some (.gho d)) : ∃ O', Stp O H O' H ∧ SR Y O' (ρ.set i none) σ H ∧ (ρ.set i none)[i]? = some none ∧ (∀ a, O' a → O a) ∧ (¬ isOwn ρ i → ∀ a, O a → O' a) := by
  obtain ⟨O', h, s', ho⟩ := s.clr hi
  obtain ⟨x, hx, _⟩ := hi
  exact ⟨O', Stp.drop h, s', List.getElem?_set_self (List.getElem?_eq_some_iff.mp hx).1, h, ho⟩
theorem set_set {α : Type} (l : List α) (i : Nat) (a b : α) : (l.set i a).set i b = l.set i b := by simp
theorem setV_ok {i : Nat} {d : D} {ρ ρ' : DEnv} (h : setV i d ρ = .ok ρ') : (∃ x, ρ[i]? = some x ∧ (∀ d, x ≠ some (.slf d)) ∧ ∀ d, x ≠ some (.gho d)) ∧ ρ' = ρ.set i (some (.val d)) := by
  unfold setV at h
  split at h
  · cases h
  · cases h
  · rename_i x n1 n2 e
    cases h
    exact ⟨⟨x, e, fun d q => n1 d q, fun d q => n2 d q⟩, rfl⟩
  · cases h
theorem setO_ok {i : Nat} {d : D} {ρ ρ' : DEnv} (h : setO i d ρ = .ok ρ') : (∃ x, ρ[i]? = some x ∧ (∀ d, x ≠ some (.slf d)) ∧ ∀ d, x ≠ some (.gho d)) ∧ ρ' = ρ.set i (some (.own d)) := by
  unfold setO at h
  split at h
  · cases h
  · cases h
  · rename_i x n1 n2 e
    cases h
    exact ⟨⟨x, e, fun d q => n1 d q, fun d q => n2 d q⟩, rfl⟩
  · cases h
theorem setV_no {i : Nat} {d : D} {ρ : DEnv} {e : Ex} (h : setV i d ρ = .ex e) : False := by
  unfold setV at h; split at h <;> cases h
theorem setO_no {i : Nat} {d : D} {ρ : DEnv} {e : Ex} (h : setO i d ρ = .ex e) : False := by
  unfold setO at h; split at h <;> cases h
theorem SR.setv {i : Nat} {d : D} {v : V} {ρ' : DEnv} (s : SR Y O ρ σ H) (h : setV i d ρ = .ok ρ') (hn : i < Y.n) (r : Rep Y.G (Zo Y.Ze O) H d v) : ∃ O', Stp O H O' H ∧ SR Y O' ρ' (σ.set i (some v)) H ∧ (∀ a, O' a → O a) ∧ (¬ isOwn ρ i → ∀ a, O a → O' a) := by
  obtain ⟨hi, rfl⟩ := setV_ok h
  obtain ⟨O', st, s', e, sub, ho⟩ := s.free hi
  refine ⟨O', st, ?_, sub, ho⟩
  have := s'.putv e hn (r.weak fun a z => z.elim .inl fun z => .inr (sub a z))
  rwa [set_set] at this
theorem SR.seto {i : Nat} {d : D} {p : Addr} {ρ' : DEnv} (s : SR Y O ρ σ H) (h : setO i d ρ = .ok ρ') (hn : i < Y.n) (sm : Same H H') (hp0 : H p = none) (hp : H' p ≠ none) (r : RepW Y.G (fun a => Zo Y.Ze O a ∨ a = p) H' d (.ref p)) :
    ∃ O', Stp O H O' H' ∧ SR Y O' ρ' (σ.set i (some (.ref p))) H' := by
  obtain ⟨hi, rfl⟩ := setO_ok h
  obtain ⟨O', st, s', e, sub, _⟩ := s.free hi
  refine ⟨fun a => O' a ∨ a = p, ⟨fun a o n q => sm a o q, fun a z => z.elim (fun z => .inl (sub a z)) fun z => .inr (by rw [z]; exact hp0)⟩, ?_⟩
  have := s'.puto sm hp0 e hn hp (r.weak fun a z => by rcases z with (z | z) | z; exact .inl (.inl z); exact .inl (.inr (sub a z)); exact .inr z)
  rwa [set_set] at this
theorem clr1_SR {i : Nat} (s : SR Y O ρ σ H) : ∃ O', Stp O H O' H ∧ SR Y O' (clr1 i ρ) σ H := by
  unfold clr1
  split
  · rename_i d e
    obtain ⟨O', st, s', _⟩ := s.free ⟨_, e, fun _ => (by intro q; cases q), fun _ => (by intro q; cases q)⟩
    exact ⟨O', st, s'⟩
  · rename_i d e
    obtain ⟨O', st, s', _⟩ := s.free ⟨_, e, fun _ => (by intro q; cases q), fun _ => (by intro q; cases q)⟩
    exact ⟨O', st, s'⟩
  · exact ⟨O, Stp.refl, s⟩
theorem clrD_SR : ∀ (is : List Nat) {O : Addr → Prop} {ρ : DEnv}, SR Y O ρ σ H → ∃ O', Stp O H O' H ∧ SR Y O' (clrD is ρ) σ H
  | [], O, ρ, s => ⟨O, Stp.refl, s⟩
  | i :: is, O, ρ, s => by
    obtain ⟨O1, st1, s1⟩ := clr1_SR (i := i) s
    obtain ⟨O2, st2, s2⟩ := clrD_SR is s1
    exact ⟨O2, st1.trans st2, s2⟩
theorem frzD_SR {i : Nat} (s : SR Y O ρ σ H) : ∃ O', Stp O H O' H ∧ SR Y O' (frzD i ρ) σ H := by
  unfold frzD
  split
  · rename_i d e
    obtain ⟨O', h, s', _⟩ := s.frz e
    exact ⟨O', Stp.drop h, s'⟩
  · exact ⟨O, Stp.refl, s⟩
theorem frzs_SR : ∀ (is : List Nat) {O : Addr → Prop} {ρ : DEnv}, SR Y O ρ σ H → ∃ O', Stp O H O' H ∧ SR Y O' (is.foldl (fun r i => frzD i r) ρ) σ H
  | [], O, ρ, s => ⟨O, Stp.refl, s⟩
  | i :: is, O, ρ, s => by
    obtain ⟨O1, st1, s1⟩ := frzD_SR (i := i) s
    obtain ⟨O2, st2, s2⟩ := frzs_SR is s1
    exact ⟨O2, st1.trans st2, s2⟩
theorem SPost.fwd {O O1 : Addr → Prop} {H H1 : Hp} {N : Ends} {r : R Out} (st : Stp O H O1 H1) (h : SPost Y O H N r) : SPost Y O1 H1 N r := by
  cases r with
  | ok o =>
    cases o with
    | nx ρ => exact fun O' σ' H' s' q => h O' σ' H' (st.trans s') q
    | bk ρ => exact fun O' σ' H' s' q => h O' σ' H' (st.trans s') q
    | ct ρ => exact fun O' σ' H' s' q => h O' σ' H' (st.trans s') q
    | rt d ρ => exact fun O' σ' H' v s' q => h O' σ' H' v (st.trans s') q
    | xx e ρ => exact fun O' σ' H' c od s' q => h O' σ' H' c od (st.trans s') q
  | ex e => exact h
  | no => exact h
/-- an expression, then something -/
theorem exp_then {fa : DE} {k : D → R Out} {N : Ends} {Q : VK} (s : SR Y O ρ σ H) (h : SPost Y O H N ((fa ρ).st ρ k)) (hq : ∀ d, fa ρ = .ok d → SPost Y O H N (k d) → ∀ v H1, Same H H1 → Rep Y.G (Zo Y.Ze O) H1 d v → Q v H1) : tD Y fa σ H Q := by
  refine ⟨O, ρ, s, ?_⟩
  cases ea : fa ρ with
  | no => rw [ea] at h; exact h
  | ex e => rw [ea] at h; exact fun c od H1 s1 xr => h O σ H1 c od (Stp.same s1) (s.same s1) xr
  | ok d => rw [ea] at h; exact fun v H1 s1 rv => hq d ea h v H1 s1 rv
theorem expw_then {fa : DE} {k : D → R Out} {N : Ends} {Q : VK} (s : SR Y O ρ σ H) (h : SPost Y O H N ((fa ρ).st ρ k)) (hq : ∀ d, fa ρ = .ok d → SPost Y O H N (k d) → ∀ v H1, Same H H1 → RepW Y.G (Zo Y.Ze O) H1 d v → Q v H1) : tDw Y fa σ H Q := by
  refine ⟨O, ρ, s, ?_⟩
  cases ea : fa ρ with
  | no => rw [ea] at h; exact h
  | ex e => rw [ea] at h; exact fun c od H1 s1 xr => h O σ H1 c od (Stp.same s1) (s.same s1) xr
  | ok d => rw [ea] at h; exact fun v H1 s1 rv => hq d ea h v H1 s1 rv
end
section
variable {X : Cx} {Y : Cy} {st : Stmt} {rest body : List Stmt} {F G1 G2 : DS} {a b e tg : Expr} {fa fb : DE} {pos pos' p2 : Pos}
theorem dss_nil : PDSs X Y [] sNext := fun k => impPSs pss_nil fun N σ H ⟨O, ρ, s, q⟩ => q O σ H Stp.refl s
theorem dss_cons (h1 : PDS X Y st F) (h2 : PDSs X Y rest G1) : PDSs X Y (st :: rest) (sSeq F G1) := fun k => impPSs (pss_cons (h1 k) (h2 k)) fun N σ H ⟨O, ρ, s, q⟩ => by
  refine ⟨O, ρ, s, ?_⟩
  unfold sSeq at q
  cases ea : F ρ with
  | ex e => rw [ea] at q; exact q
  | no => rw [ea] at q; exact q
  | ok o =>
    rw [ea] at q
    cases o with
    | nx ρ' => exact fun O' σ' H' st s' => ⟨O', ρ', s', SPost.fwd st q⟩
    | bk ρ' => exact q
    | ct ρ' => exact q
    | rt d ρ' => exact q
    | xx e ρ' => exact q
theorem dss_one (h1 : PDS X Y st F) : PDSs X Y [st] F := fun k => pss_one (h1 k)
/-- ahead of a statement containers are given out -/
theorem ds_frz (is : List Nat) (h : PDS X Y st F) : PDS X Y st (sFrz is F) := fun k => impPS (h k) fun N σ H ⟨O, ρ, s, q⟩ => by
  obtain ⟨O', st, s'⟩ := frzs_SR is s
  exact ⟨O', _, s', SPost.fwd st q⟩
theorem ds_break : PDS X Y (.Break pos) sBrk := fun k => impPS ps_break fun N σ H ⟨O, ρ, s, q⟩ => q O σ H Stp.refl s
theorem ds_ret (ha : PD X Y a fa) : PDS X Y (.Return (some a) pos) (sRet fa) := fun k => impPS (ps_ret (ha k)) fun N σ H ⟨O, ρ, s, q⟩ =>
  exp_then s q fun d ea q v H1 s1 rv => q O σ H1 v (Stp.same s1) (s.same s1) rv
theorem ds_if {c : Expr} {gc : DT} {A B : List Stmt} (hc : PDT X Y c gc) (ha : PDSs X Y A G1) (hb : PDSs X Y B G2) : PDS X Y (.If c A B pos) (sIf gc G1 G2) := fun k => impPS (ps_if (hc k) (ha k) (hb k)) fun N σ H ⟨O, ρ, s, q⟩ => by
  refine ⟨O, ρ, s, ?_⟩
  unfold sIf at q
  cases ea : gc ρ with
  | no => rw [ea] at q; exact q
  | ex e => rw [ea] at q; exact fun c od H1 s1 xr => q O σ H1 c od (Stp.same s1) (s.same s1) xr
  | ok b =>
    rw [ea] at q
    intro H1 s1
    cases b with
    | true => exact ⟨O, ρ, s.same s1, SPost.fwd (Stp.same s1) q⟩
    | false => exact ⟨O, ρ, s.same s1, SPost.fwd (Stp.same s1) q⟩
theorem ds_set {i : Nat} {x : Str} (hi : X.N[i]? = some x) (hn : i < Y.n) (hx : Loc X.env.scope x) (ha : PD X Y a fa) (hs : swapsWith a (some (.Name x pos')) pos.line X.env = pure false := by rfl) (hf : X.fn x = true ∨ X.env.scope.names.lookup x = some .local := by first | exact .inl rfl | exact .inr rfl | assumption) :
    PDS X Y (.Assign [.Name x pos'] a pos) (sSet i fa) := fun k => impPS (ps_set k.nd hi hx (ha k) hs hf) fun N σ H ⟨O, ρ, s, q⟩ =>
  exp_then s q fun d ea q v H1 s1 rv => by
    cases es : setV i d ρ with
    | no => rw [es] at q; exact q.elim
    | ex e => exact (setV_no es).elim
    | ok ρ' =>
      rw [es] at q
      obtain ⟨O', st, s', _⟩ := (s.same s1).setv es hn rv
      exact q O' _ H1 ((Stp.same s1).trans st) s'
/-- an expression that makes a new container -/
def EPostF (Y : Cy) (O : Addr → Prop) (σ : L2.St) (H : Hp) (Q : VK) : R D → Prop
  | .ok d => ∀ p H', Same H H' → H p = none → H' p ≠ none → RepW Y.G (fun a => Zo Y.Ze O a ∨ a = p) H' d (.ref p) → Q (.ref p) H'
  | .ex e => ∀ c od H', Same H H' → ExRep Y.G (Zo Y.Ze O) H' e c od → Y.E c od σ H'
  | .no => False
def tDF (Y : Cy) (f : DE) : TE := fun σ H Q => ∃ O ρ, SR Y O ρ σ H ∧ EPostF Y O σ H Q (f ρ)
def PDF (X : Cx) (Y : Cy) (e : Expr) (f : DE) : Prop := Lk X Y → PE X e (tDF Y f)
theorem expf_then {O : Addr → Prop} {ρ : DEnv} {σ : L2.St} {H : Hp} {k : D → R Out} {N : Ends} {Q : VK} (s : SR Y O ρ σ H) (h : SPost Y O H N ((fa ρ).st ρ k))
    (hq : ∀ d, fa ρ = .ok d → SPost Y O H N (k d) → ∀ p H1, Same H H1 → H p = none → H1 p ≠ none → RepW Y.G (fun a => Zo Y.Ze O a ∨ a = p) H1 d (.ref p) → Q (.ref p) H1) : tDF Y fa σ H Q := by
  refine ⟨O, ρ, s, ?_⟩
  cases ea : fa ρ with
  | no => rw [ea] at h; exact h
  | ex e => rw [ea] at h; exact fun c od H1 s1 xr => h O σ H1 c od (Stp.same s1) (s.same s1) xr
  | ok d => rw [ea] at h; exact fun p H1 s1 h0 h1 rv => hq d ea h p H1 s1 h0 h1 rv
theorem ds_own {i : Nat} {x : Str} (hi : X.N[i]? = some x) (hn : i < Y.n) (hx : Loc X.env.scope x) (ha : PDF X Y a fa) (hs : swapsWith a (some (.Name x pos')) pos.line X.env = pure false := by rfl) (hf : X.fn x = true ∨ X.env.scope.names.lookup x = some .local := by first | exact .inl rfl | exact .inr rfl | assumption) :
    PDS X Y (.Assign [.Name x pos'] a pos) (sOwn i fa) := fun k => impPS (ps_set k.nd hi hx (ha k) hs hf) fun N σ H ⟨O, ρ, s, q⟩ =>
  expf_then s q fun d ea q p H1 s1 h0 h1 rv => by
    cases es : setO i d ρ with
    | no => rw [es] at q; exact q.elim
    | ex e => exact (setO_no es).elim
    | ok ρ' =>
      rw [es] at q
      obtain ⟨O', st, s'⟩ := s.seto es hn s1 h0 h1 rv
      exact q O' _ H1 st s'
theorem pf_lst {es : List Expr} {fs : DA} (ha : PDA X Y es fs) : PDF X Y (.List es pos) (eLst fs) := fun k => impPE (pe_lst (ha k)) fun σ H Q ⟨O, ρ, s, q⟩ => by
  refine ⟨O, ρ, s, ?_⟩
  unfold eLst at q
  cases ea : fs ρ with
  | no => rw [ea] at q; exact q
  | ex e => rw [ea] at q; exact q
  | ok ds =>
    rw [ea] at q
    simp only [R.bind_ok] at q
    intro vs H1 s1 rs
    split at q
    · rename_i hl
      refine ⟨by rw [lineD_eq, ← rs.length]; exact hl, fun n hn => q n _ (s1.trans (same_new hn)) (s1.free hn) (by rw [upd_same]; exact fun z => by cases z) ⟨n, _, rfl, upd_same, ?_⟩⟩
      exact rs.mono (Same.sub (same_new hn)) fun a z => z.elim .inl fun e => .inr (by rw [e]; exact hn)
    · exact q.elim
theorem pf_dict0 : PDF X Y (.Dict [] [] pos) (eC (.dct [] [])) := fun k => impPE pe_dnewK fun σ H Q ⟨O, ρ, s, q⟩ n hn =>
  q n _ (same_new hn) hn (by rw [upd_same]; exact fun z => by cases z) ⟨n, [], rfl, upd_same, rfl, rfl⟩
end
end Tw

set_option maxHeartbeats 2000000
namespace Tw
open PySem PySem.Spec L2
open PyProof.Rows hiding St
def WalkS (G : Gc) (Z : Addr → Prop) (H0 : Hp) (J : It) (l : List D) : Prop := ∀ (i : Nat) (H2 : Hp) (Z2 : Addr → Prop), Sub Z H0 H2 → (∀ a, Z2 a → Z a ∨ H0 a = none) →
  (∀ d, l[i]? = some d → J.go i H2 ∧ ∀ x H3, J.yld i H2 x H3 → Same H2 H3 ∧ Rep G Z2 H3 d x) ∧ (l.length ≤ i → J.stop i H2)
def WalkW (G : Gc) (Z : Addr → Prop) (H0 : Hp) (J : It) (l : List D) : Prop := ∀ (i : Nat) (H2 : Hp) (Z2 : Addr → Prop), Same H0 H2 → (∀ a, Z2 a → Z a ∨ H0 a = none) →
  (∀ d, l[i]? = some d → J.go i H2 ∧ ∀ x H3, J.yld i H2 x H3 → Same H2 H3 ∧ Rep G Z2 H3 d x) ∧ (l.length ≤ i → J.stop i H2)
theorem WalkS.w {G : Gc} {Z : Addr → Prop} {H0 : Hp} {J : It} {l : List D} (h : WalkS G Z H0 J l) : WalkW G Z H0 J l := fun i H2 Z2 s z => h i H2 Z2 (Same.sub s) z
def IPostS (Y : Cy) (O : Addr → Prop) (σ : L2.St) (H : Hp) (Q : It → Hp → Prop) : R (List D) → Prop
  | .ok l => ∀ J H', Same H H' → WalkS Y.G (Zo Y.Ze O) H' J l → Q J H'
  | .ex e => ∀ c od H', Same H H' → ExRep Y.G (Zo Y.Ze O) H' e c od → Y.E c od σ H'
  | .no => False
def IPostW (Y : Cy) (O : Addr → Prop) (σ : L2.St) (H : Hp) (Q : It → Hp → Prop) : R (List D) → Prop
  | .ok l => ∀ J H', Same H H' → WalkW Y.G (Zo Y.Ze O) H' J l → Q J H'
  | .ex e => ∀ c od H', Same H H' → ExRep Y.G (Zo Y.Ze O) H' e c od → Y.E c od σ H'
  | .no => False
def tDI (Y : Cy) (f : DI) : TI := fun σ H Q => ∃ O ρ, SR Y O ρ σ H ∧ IPostS Y O σ H Q (f ρ)
def tDIw (Y : Cy) (f : DI) : TI := fun σ H Q => ∃ O ρ, SR Y O ρ σ H ∧ IPostW Y O σ H Q (f ρ)
def PDI (X : Cx) (Y : Cy) (tg iter : Expr) (f : DI) : Prop := Lk X Y → PI X tg iter (tDI Y f)
def PDIw (X : Cx) (Y : Cy) (tg iter : Expr) (f : DI) : Prop := Lk X Y → PI X tg iter (tDIw Y f)
theorem impPI {X : Cx} {tg e : Expr} {t t' : TI} (h : PI X tg e t) (i : ∀ σ H Q, t' σ H Q → t σ H Q) : PI X tg e t' := ⟨fun pins s σ H Q I q => h.run pins s σ H Q I (i σ H Q q)⟩
theorem orPI {X : Cx} {tg e : Expr} {t u : TI} (h : PI X tg e t) (k : PI X tg e u) : PI X tg e (fun σ H Q => t σ H Q ∨ u σ H Q) := ⟨fun pins s σ H Q I q => q.elim (h.run pins s σ H Q I) (k.run pins s σ H Q I)⟩
theorem PDI.w {X : Cx} {Y : Cy} {tg e : Expr} {f : DI} (h : PDI X Y tg e f) : PDIw X Y tg e f := fun k => impPI (h k) fun σ H Q ⟨O, ρ, s, q⟩ => ⟨O, ρ, s, by
  cases e : f ρ with
  | ok l => rw [e] at q; exact fun J H' s w => q J H' s w.w
  | ex x => rw [e] at q; exact q
  | no => rw [e] at q; exact q⟩
section
variable {X : Cx} {Y : Cy} {tg e a b : Expr} {fa fb : DE} {pos p p2 : Pos}
theorem walkS_itl {G : Gc} {Z : Addr → Prop} {H : Hp} {p : Addr} {l : List D} {vs : List V} (hz : ¬ Z p) (hp : H p = some (.lst vs)) (r : RepL G Z H l vs) : WalkS G Z H (Itl G.K p) l := fun i H2 Z2 s z => by
  have hp2 := s p _ hz hp
  refine ⟨fun d hd => ?_, fun hl => ⟨vs, SqL.of hp2, by rw [← r.length]; exact hl⟩⟩
  obtain ⟨v, hv, rv⟩ := (r.mono s z).get hd
  refine ⟨⟨vs, v, SqL.of hp2, hv⟩, fun x H3 y => ?_⟩
  obtain ⟨rfl, y⟩ := y
  have := y vs (SqL.of hp2)
  rw [hv] at this
  cases this
  exact ⟨Same.refl _, rv⟩
theorem walkW_itl {G : Gc} {Z : Addr → Prop} {H : Hp} {p : Addr} {l : List D} {vs : List V} (hp : H p = some (.lst vs)) (r : RepL G Z H l vs) : WalkW G Z H (Itl G.K p) l := fun i H2 Z2 s z => by
  have hp2 := s p _ hp
  refine ⟨fun d hd => ?_, fun hl => ⟨vs, SqL.of hp2, by rw [← r.length]; exact hl⟩⟩
  obtain ⟨v, hv, rv⟩ := (r.mono (Same.sub s) z).get hd
  refine ⟨⟨vs, v, SqL.of hp2, hv⟩, fun x H3 y => ?_⟩
  obtain ⟨rfl, y⟩ := y
  have := y vs (SqL.of hp2)
  rw [hv] at this
  cases this
  exact ⟨Same.refl _, rv⟩
theorem walkS_itt {G : Gc} {Z : Addr → Prop} {H : Hp} {p : Addr} {l : List D} (r : Rep G Z H (.tup l) (.ref p)) : WalkS G Z H (Itt G.K p) l := fun i H2 Z2 s z => by
  obtain ⟨a, vs, e, hp, r⟩ := rep_tup (Rep.mono s z r)
  cases e
  refine ⟨fun d hd => ?_, fun hl => ⟨vs, hp, by rw [← r.length]; exact hl⟩⟩
  obtain ⟨v, hv, rv⟩ := r.get hd
  refine ⟨⟨vs, v, hp, hv⟩, fun x H3 y => ?_⟩
  obtain ⟨rfl, y⟩ := y
  have := y vs hp
  rw [hv] at this
  cases this
  exact ⟨Same.refl _, rv⟩
theorem walkS_str {G : Gc} {Z : Addr → Prop} {H : Hp} {x : Str} : WalkS G Z H (Its x) (x.cps.toList.map fun c => .str ⟨#[c]⟩) := fun i H2 Z2 s z => by
  refine ⟨fun d hd => ?_, fun hl => ?_⟩
  · rw [List.getElem?_map] at hd
    obtain ⟨c, hc, rfl⟩ := Option.map_eq_some_iff.mp hd
    have hc' : x.cps[i]? = some c := by rw [← Array.getElem?_toList]; exact hc
    refine ⟨(Array.getElem?_eq_some_iff.mp hc').1, fun y H3 yl => ?_⟩
    obtain ⟨rfl, c', e, rfl⟩ := yl
    rw [hc'] at e
    cases e
    exact ⟨Same.refl _, rfl⟩
  · rw [List.length_map, Array.length_toList] at hl
    exact hl
theorem walkS_rng {G : Gc} {Z : Addr → Prop} {H : Hp} {lo : Int} {n : Nat} {l : List D} (hl : l = (List.range n).map fun i => .int (lo + Int.ofNat i)) : WalkS G Z H (Itr lo n) l := fun i H2 Z2 s z => by
  subst hl
  refine ⟨fun d hd => ?_, fun h => by rw [List.length_map, List.length_range] at h; exact h⟩
  rw [List.getElem?_map] at hd
  obtain ⟨c, hc, rfl⟩ := Option.map_eq_some_iff.mp hd
  have hi : i < n := by
    have := (List.getElem?_eq_some_iff.mp hc).1
    rwa [List.length_range] at this
  rw [List.getElem?_range hi] at hc
  cases hc
  refine ⟨hi, fun y H3 yl => ?_⟩
  obtain ⟨rfl, rfl⟩ := yl
  exact ⟨Same.refl _, rfl⟩
theorem exp_iter {α : Type} {O : Addr → Prop} {ρ : DEnv} {σ : L2.St} {H : Hp} {Q : It → Hp → Prop} {k : D → R (List D)} {R : VK} (s : SR Y O ρ σ H) (h : IPostS Y O σ H Q ((fa ρ).bind k)) (hq : ∀ d, fa ρ = .ok d → IPostS Y O σ H Q (k d) → ∀ v H1, Same H H1 → Rep Y.G (Zo Y.Ze O) H1 d v → R v H1) : tD Y fa σ H R := by
  refine ⟨O, ρ, s, ?_⟩
  cases ea : fa ρ with
  | no => rw [ea] at h; exact h
  | ex e => rw [ea] at h; exact h
  | ok d => rw [ea] at h; exact fun v H1 s1 rv => hq d ea h v H1 s1 rv
/-- for x in a, a a list, a tuple, a text -/
theorem di_of (ha : PD X Y a fa) : PDI X Y tg a (iOf fa) := fun k => by
  refine impPI (orPI (pi_list (ha k)) (orPI (pi_tup (ha k)) (pi_str (ha k)))) fun σ H Q h => ?_
  obtain ⟨O, ρ, s, q⟩ := h
  have ht : ∀ {R : VK}, (∀ d, fa ρ = .ok d → IPostS Y O σ H Q (Tw.R.of (iterD d)) → ∀ v H1, Same H H1 → Rep Y.G (Zo Y.Ze O) H1 d v → R v H1) → tD Y fa σ H R := fun h => exp_iter (α := Unit) s q h
  unfold iOf at q
  cases ea : fa ρ with
  | no => rw [ea] at q; exact q.elim
  | ex e => rw [ea] at q; exact .inl ⟨O, ρ, s, by rw [ea]; exact q⟩
  | ok d =>
    rw [ea] at q
    simp only [R.bind_ok] at q
    have one : ∀ {R : VK}, (∀ v H1, Same H H1 → Rep Y.G (Zo Y.Ze O) H1 d v → R v H1) → tD Y fa σ H R := fun h => ⟨O, ρ, s, by rw [ea]; exact h⟩
    cases d with
    | lst l =>
      refine .inl (one fun v H1 s1 rv => ?_)
      obtain ⟨p, vs, rfl, n, hp, r⟩ := rv
      refine ⟨p, rfl, ⟨vs, SqL.of hp⟩, ?_⟩
      rw [k.K]
      exact q _ H1 s1 (walkS_itl n hp r)
    | tup l =>
      refine .inr (.inl (one fun v H1 s1 rv => ?_))
      have rv' := rv
      obtain ⟨p, vs, rfl, hp, r⟩ := rep_tup rv
      rw [k.K]
      exact ⟨p, rfl, ⟨vs, hp⟩, q _ H1 s1 (walkS_itt rv')⟩
    | str x =>
      refine .inr (.inr (one fun v H1 s1 rv => ⟨x, rv, q _ H1 s1 walkS_str⟩))
    | _ => exact q.elim
theorem di_range (hg : Gl X "range") (hm : X.mg "range" = none) (ha : PD X Y a fa) (hs : starEach [a] X.env = [(false, eval a X.env)] := by rfl) (hs2 : starEach (a :: []) X.env = (false, eval a X.env) :: starEach [] X.env := by rfl) : PDI X Y tg (.Call (.Name "range" p) [a] [] pos) (iRange fa) := fun k => by
  refine impPI (pi_range1 hg hm (pa_cons (ha k) pa_nil hs2) hs) fun σ H Q ⟨O, ρ, s, q⟩ => ?_
  refine ⟨O, ρ, s, ?_⟩
  unfold iRange rngR at q
  cases ea : fa ρ with
  | no => rw [ea] at q; exact q
  | ex e => rw [ea] at q; exact q
  | ok d =>
    rw [ea] at q
    simp only [R.bind_ok] at q
    intro v H1 s1 rv
    cases d with
    | int n =>
      obtain rfl : v = .int n := rv
      simp only at q
      split at q
      · rename_i hn
        exact ⟨n, rfl, (show _ ∧ _ from hn).1, (show _ ∧ _ from hn).2, q _ H1 s1 (walkS_rng (by unfold rangeD; simp))⟩
      · exact q.elim
    | _ => exact q.elim
/-- all slots but those of is stand -/
def OffS (is : List Nat) (σ σ' : L2.St) : Prop := σ'.length = σ.length ∧ ∀ j, j ∉ is → σ'[j]? = σ[j]?
def GPost (Y : Cy) (is : List Nat) (O : Addr → Prop) (ρ0 : DEnv) (σ : L2.St) (H : Hp) (Q : L2.St → Hp → Prop) : Tw.R DEnv → Prop
  | .ok ρ => ∀ O' σ', Stp O H O' H → SR Y O' ρ σ' H → OffS is σ σ' → ((∀ i ∈ is, ¬ isOwn ρ0 i) → ∀ a, O a → O' a) → Q σ' H
  | _ => False
def tDG (Y : Cy) (is : List Nat) (g : DG) : TG := fun v σ H Q => ∃ O ρ d, SR Y O ρ σ H ∧ Rep Y.G (Zo Y.Ze O) H d v ∧ GPost Y is O ρ σ H Q (g d ρ)
def PDG (X : Cx) (Y : Cy) (is : List Nat) (tg : Expr) (g : DG) : Prop := Lk X Y → PG X tg (tDG Y is g)
theorem OffS.set {i : Nat} {σ : L2.St} {v : V} : OffS [i] σ (σ.set i (some v)) := ⟨List.length_set, fun j hj => List.getElem?_set_ne fun e => hj (by rw [e]; exact List.mem_cons_self)⟩
theorem OffS.mono {is js : List Nat} {σ σ' : L2.St} (h : OffS is σ σ') (k : ∀ i ∈ is, i ∈ js) : OffS js σ σ' := ⟨h.1, fun j hj => h.2 j fun z => hj (k j z)⟩
theorem OffS.trans {is : List Nat} {σ σ' σ2 : L2.St} (h : OffS is σ σ') (k : OffS is σ' σ2) : OffS is σ σ2 := ⟨k.1.trans h.1, fun j hj => (k.2 j hj).trans (h.2 j hj)⟩
theorem impPG {X : Cx} {tg : Expr} {t t' : TG} (h : PG X tg t) (i : ∀ v σ H Q, t' v σ H Q → t v σ H Q) : PG X tg t' := ⟨fun pins s σ H v u Q I r q => h.run pins s σ H v u Q I r (i v σ H Q q)⟩
theorem dg_name {i : Nat} {x : Str} (hi : X.N[i]? = some x) (hn : i < Y.n) (hx : Loc X.env.scope x) (hf : X.fn x = true ∨ X.env.scope.names.lookup x = some .local := by first | exact .inl rfl | exact .inr rfl | assumption) : PDG X Y [i] (.Name x pos) (gVar i) := fun k => impPG (pg_name k.nd hi hx hf) fun v σ H Q ⟨O, ρ, d, s, r, q⟩ => by
  unfold gVar at q
  cases e : setV i d ρ with
  | no => rw [e] at q; exact q.elim
  | ex x => rw [e] at q; exact q.elim
  | ok ρ' =>
    rw [e] at q
    obtain ⟨O', st, s', _, ho⟩ := s.setv e hn r
    exact q O' _ st s' OffS.set fun h => ho (h i List.mem_cons_self)
theorem drop_cons {α : Type} {l : List α} {i : Nat} (h : i < l.length) : ∃ d, l[i]? = some d ∧ l.drop i = d :: l.drop (i + 1) := by
  refine ⟨l[i], List.getElem?_eq_getElem h, ?_⟩
  exact List.drop_eq_getElem_cons h
theorem ds_for {iter : Expr} {body : List Stmt} {fi : DI} {g : DG} {F : DS} {cl is : List Nat} (hi : PDI X Y tg iter fi) (hg : PDG X Y is tg g) (hb : PDSs X Y body F)
    (hs : ∀ x, foldedSetIterable iter X.env x = pure x := by intro _; rfl) (hca : Y.ca = true := by rfl) : PDS X Y (.For tg iter body [] pos) (sFor fi g cl F) := fun k => impPS (ps_for k.po (k.calm hca) (hi k) (hg k) (hb k) hs) fun N σ H ⟨O, ρ, s, q⟩ => by
  refine ⟨O, ρ, s, ?_⟩
  unfold sFor at q
  cases ea : fi ρ with
  | no => rw [ea] at q; exact q
  | ex e => rw [ea] at q; exact fun c od H1 s1 xr => q O σ H1 c od (Stp.same s1) (s.same s1) xr
  | ok l =>
    rw [ea] at q
    simp only [R.st_ok] at q
    intro J H1 s1 w
    obtain ⟨O0, st0, s0⟩ := clrD_SR cl (s.same s1)
    refine ⟨fun i m σ' H' => m = l.length - i ∧ i ≤ l.length ∧ ∃ O' ρ', Stp O H1 O' H' ∧ SR Y O' ρ' σ' H' ∧ SPost Y O' H' N (forL g cl F (l.drop i) ρ'), ⟨_, rfl, Nat.zero_le _, O0, _, st0, s0, SPost.fwd ((Stp.same s1).trans st0) q⟩, ?_⟩
    rintro i m σ' H' ⟨rfl, hi, O', ρ', st', s', q'⟩
    have wz : ∀ a, Zo Y.Ze O' a → Zo Y.Ze O a ∨ H1 a = none := fun a z => z.elim (fun z => .inl (.inl z)) fun z => (st'.2 a z).elim (fun z => .inl (.inr z)) .inr
    have ww := w i H' (Zo Y.Ze O') (fun a o n e => st'.1 a o (fun z => n (.inr z)) e) wz
    by_cases hlt : i < l.length
    · obtain ⟨d, hd, e⟩ := drop_cons hlt
      obtain ⟨go, yl⟩ := ww.1 d hd
      rw [e] at q'
      refine .inr ⟨go, fun σ2 H2 => i + 1 ≤ l.length ∧ ∃ O2 ρ2, Stp O H1 O2 H2 ∧ SR Y O2 ρ2 σ2 H2 ∧ SPost Y O2 H2 N (forL g cl F (l.drop (i + 1)) ρ2), fun σ2 H2 h => ⟨l.length - (i + 1), by omega, rfl, h.1, h.2⟩, fun x H3 y => ?_⟩
      obtain ⟨s3, r3⟩ := yl x H3 y
      refine ⟨O', ρ', d, s'.same s3, r3, ?_⟩
      simp only [forL] at q'
      cases eg : g d ρ' with
      | no => rw [eg] at q'; exact q'.elim
      | ex e => rw [eg] at q'; exact q'.elim
      | ok ρ3 =>
        rw [eg] at q'
        simp only [R.bind_ok] at q'
        intro O4 σ4 st4 s4 _ _
        refine ⟨O4, ρ3, s4, ?_⟩
        have stA := st'.trans ((Stp.same s3).trans st4)
        cases eF : F ρ3 with
        | no => rw [eF] at q'; exact q'.elim
        | ex e => rw [eF] at q'; exact q'.elim
        | ok o =>
          rw [eF] at q'
          cases o with
          | nx ρ5 =>
            intro O5 σ5 H5 st5 s5
            obtain ⟨O6, st6, s6⟩ := clrD_SR cl s5
            exact ⟨hlt, O6, _, stA.trans (st5.trans st6), s6, SPost.fwd ((Stp.same s3).trans (st4.trans (st5.trans st6))) q'⟩
          | ct ρ5 =>
            intro O5 σ5 H5 st5 s5
            obtain ⟨O6, st6, s6⟩ := clrD_SR cl s5
            exact ⟨hlt, O6, _, stA.trans (st5.trans st6), s6, SPost.fwd ((Stp.same s3).trans (st4.trans (st5.trans st6))) q'⟩
          | bk ρ5 => exact fun O5 σ5 H5 st5 s5 => q' O5 σ5 H5 ((Stp.same s3).trans (st4.trans st5)) s5
          | rt d5 ρ5 => exact fun O5 σ5 H5 v st5 s5 => q' O5 σ5 H5 v ((Stp.same s3).trans (st4.trans st5)) s5
          | xx e5 ρ5 => exact fun O5 σ5 H5 c od st5 s5 => q' O5 σ5 H5 c od ((Stp.same s3).trans (st4.trans st5)) s5
    · have e : i = l.length := by omega
      subst e
      rw [List.drop_length] at q'
      exact .inl ⟨ww.2 (Nat.le_refl _), q' O' σ' H' Stp.refl s'⟩
end
end Tw

set_option maxHeartbeats 2000000
namespace Tw
open PySem PySem.Spec L2
open PyProof.Rows hiding St
section
variable {Y : Cy} {O : Addr → Prop} {ρ : DEnv} {σ : L2.St} {H H' : Hp}
/-- the reading in a comprehension's block: no exception, more that may not be leaned on -/
def Cy.blk (Y : Cy) (Ze : Addr → Prop) : Cy := { Y with Ze := Ze, E := fun _ _ _ _ => False }
theorem SR.blk (s : SR Y O ρ σ H) (sm : Same H H') {p : Addr} (h0 : H p = none) (h1 : H' p ≠ none) : SR (Y.blk fun a => Y.Ze a ∨ a = p) O ρ σ H' := by
  obtain ⟨α, s⟩ := s
  have zz : ∀ a, Zo (fun a => Y.Ze a ∨ a = p) O a → Zo Y.Ze O a ∨ H a = none := fun a z => by
    rcases z with (z | rfl) | z
    · exact .inl (.inl z)
    · exact .inr h0
    · exact .inl (.inr z)
  refine ⟨α, s.len, fun i d e => ?_, fun i d e => ?_, fun i d e => ?_, fun i d e => ?_, s.inj, s.oeq, fun a z => ?_, fun a z q => s.ot a z (sm.free q), s.ptr⟩
  · obtain ⟨v, e1, r⟩ := s.val i d e
    exact ⟨v, e1, r.mono (Same.sub sm) zz⟩
  · obtain ⟨e1, n, r⟩ := s.own i d e
    refine ⟨e1, fun z => ?_, r.mono sm zz⟩
    rcases z with z | z
    · exact n z
    · exact s.ot (α i) ((s.oeq _).mpr ⟨i, ⟨d, .inl e⟩, rfl⟩) (by rw [z]; exact h0)
  · obtain ⟨e1, n, c, ks, l, dx, vs, e2, e3, e4, r⟩ := s.slf i d e
    exact ⟨e1, n, c, ks, l, dx, vs, e2, sm _ _ e3, e4, RepGL.mono sm zz (fun j d' h => ⟨rfl, d', h⟩) r⟩
  · obtain ⟨r, k⟩ := s.gho i d e
    exact ⟨r.mono sm zz, k⟩
  · rcases z with z | rfl
    · exact fun q => s.zt a z (sm.free q)
    · exact h1
theorem okW_at {vs : List Nat} {v : Nat} (h : okW vs ρ = true) (hv : v ∈ vs) : ρ[v]? = some none ∨ ∃ d, ρ[v]? = some (some (.val d)) := by
  have := List.all_eq_true.mp h v hv
  split at this
  · rename_i e; exact .inl e
  · rename_i d e; exact .inr ⟨d, e⟩
  · cases this
theorem wipD_get {vs : List Nat} {j : Nat} : (wipD vs ρ)[j]? = if j ∈ vs then (if j < ρ.length then some none else none) else ρ[j]? := by
  induction vs with
  | nil => simp [wipD]
  | cons v vs ih =>
    have e : wipD (v :: vs) ρ = (wipD vs ρ).set v none := rfl
    have hl : (wipD vs ρ).length = ρ.length := by
      clear ih e
      induction vs with
      | nil => rfl
      | cons w vs ih => show ((wipD vs ρ).set w none).length = _; rw [List.length_set, ih]
    rw [e]
    by_cases hj : v = j
    · subst hj
      rw [if_pos List.mem_cons_self]
      by_cases hv : v < ρ.length
      · rw [if_pos hv, List.getElem?_set_self (by rw [hl]; exact hv)]
      · rw [if_neg hv, List.getElem?_eq_none]
        rw [List.length_set, hl]
        omega
    · rw [List.getElem?_set_ne hj, ih]
      by_cases h : j ∈ vs
      · rw [if_pos h, if_pos (List.mem_cons_of_mem _ h)]
      · rw [if_neg h, if_neg fun z => (List.mem_cons.mp z).elim (fun z => hj z.symm) h]
theorem wipD_len {vs : List Nat} : (wipD vs ρ).length = ρ.length := by
  induction vs with
  | nil => rfl
  | cons w vs ih => show ((wipD vs ρ).set w none).length = _; rw [List.length_set, ih]
/-- the block's names forgotten -/
theorem SR.wipe {vs : List Nat} (s : SR Y O ρ σ H) (h : okW vs ρ = true) : SR Y O (wipD vs ρ) (wipe σ vs) H := by
  obtain ⟨α, s⟩ := s
  have back : ∀ {j : Nat} {x : Slot}, (wipD vs ρ)[j]? = some (some x) → j ∉ vs ∧ ρ[j]? = some (some x) := fun {j x} e => by
    rw [wipD_get] at e
    split at e
    · split at e <;> cases e
    · rename_i n; exact ⟨n, e⟩
  have fwd : ∀ {j : Nat}, isOwn ρ j → j ∉ vs := fun {j} h' n => by
    obtain ⟨d, h'⟩ := h'
    rcases okW_at h n with e | ⟨d', e⟩ <;> rcases h' with k | k | k <;> rw [e] at k <;> cases k
  have own : ∀ j, isOwn (wipD vs ρ) j ↔ isOwn ρ j := fun j => by
    refine ⟨fun ⟨d, k⟩ => ?_, fun k => ?_⟩
    · rcases k with k | k | k
      · exact ⟨d, .inl (back k).2⟩
      · exact ⟨d, .inr (.inl (back k).2)⟩
      · exact ⟨d, .inr (.inr (back k).2)⟩
    · have n := fwd k
      obtain ⟨d, k⟩ := k
      refine ⟨d, ?_⟩
      rw [wipD_get, if_neg n]
      exact k
  refine ⟨α, ⟨(wipe_length σ vs).trans s.len.1, by rw [wipD_len]; exact s.len.2⟩, fun i d e => ?_, fun i d e => ?_, fun i d e => ?_, fun i d e => ?_, fun i j hi hj e => s.inj i j ((own i).mp hi) ((own j).mp hj) e, fun a => ?_, s.zt, s.ot, fun i e => by obtain ⟨n, e⟩ := back e; rw [wipe_out n]; exact s.ptr i e⟩
  · obtain ⟨n, e⟩ := back e
    obtain ⟨v, e1, r⟩ := s.val i d e
    exact ⟨v, by rw [wipe_out n]; exact e1, r⟩
  · obtain ⟨n, e⟩ := back e
    obtain ⟨e1, r⟩ := s.own i d e
    exact ⟨by rw [wipe_out n]; exact e1, r⟩
  · obtain ⟨n, e⟩ := back e
    obtain ⟨e1, n', c, ks, l, dx, us, e2, e3, e4, r⟩ := s.slf i d e
    refine ⟨by rw [wipe_out n]; exact e1, n', c, ks, l, dx, us, e2, e3, e4, RepGL.weak (fun _ z => z) (fun j d' hj => ⟨d', ?_⟩) r⟩
    rw [wipD_get, if_neg (fwd ⟨d', .inr (.inr hj)⟩)]
    exact hj
  · obtain ⟨n, e⟩ := back e
    exact s.gho i d e
  · rw [s.oeq]
    exact ⟨fun ⟨j, k, e⟩ => ⟨j, (own j).mpr k, e⟩, fun ⟨j, k, e⟩ => ⟨j, (own j).mp k, e⟩⟩
theorem wipe_get {vs : List Nat} {j : Nat} : (L2.wipe σ vs)[j]? = if j ∈ vs then (if j < σ.length then some none else none) else σ[j]? := by
  induction vs with
  | nil => simp [L2.wipe]
  | cons v vs ih =>
    have e : L2.wipe σ (v :: vs) = (L2.wipe σ vs).set v none := rfl
    rw [e]
    by_cases hj : v = j
    · subst hj
      rw [if_pos List.mem_cons_self]
      by_cases hv : v < σ.length
      · rw [if_pos hv, List.getElem?_set_self (by rw [wipe_length]; exact hv)]
      · rw [if_neg hv, List.getElem?_eq_none]
        rw [List.length_set, wipe_length]
        omega
    · rw [List.getElem?_set_ne hj, ih]
      by_cases h : j ∈ vs
      · rw [if_pos h, if_pos (List.mem_cons_of_mem _ h)]
      · rw [if_neg h, if_neg fun z => (List.mem_cons.mp z).elim (fun z => hj z.symm) h]
theorem OffS.wipe {vs is : List Nat} {σ2 : L2.St} (h : OffS is (L2.wipe σ vs) σ2) (k : ∀ i ∈ is, i ∈ vs) : L2.wipe σ2 vs = L2.wipe σ vs := by
  refine List.ext_getElem? fun j => ?_
  have hl : σ2.length = σ.length := h.1.trans (wipe_length σ vs)
  rw [wipe_get, wipe_get, hl]
  by_cases hj : j ∈ vs
  · rw [if_pos hj, if_pos hj]
  · rw [if_neg hj, if_neg hj, h.2 j fun z => hj (k j z), wipe_out hj]
theorem wip_noown {vs : List Nat} {i : Nat} (hw : okW vs ρ = true) (hi : i ∈ vs) : ¬ isOwn (wipD vs ρ) i := fun ⟨d, k⟩ => by
  simp only [wipD_get, if_pos hi] at k
  rcases k with k | k | k <;> split at k <;> cases k
theorem compL_ex {g : DG} {c : DT} {e : DE} {ρ : DEnv} {x : Ex} : ∀ {l : List D}, compL g c e ρ l = .ex x → False
  | [], h => by cases h
  | d :: l, h => by
    simp only [compL] at h
    split at h
    · split at h
      · split at h
        · split at h <;> cases h
        · cases h
      · exact compL_ex h
      · cases h
    · cases h
/-- readings with more that may not be leaned on -/
def tX (Y : Cy) (f : DE) : TE := fun σ H Q => ∃ Ze, tD (Y.blk Ze) f σ H Q
def tXT (Y : Cy) (f : DT) : TT := fun σ H Q => ∃ Ze, tDT (Y.blk Ze) f σ H Q
def tXG (Y : Cy) (is : List Nat) (g : DG) : TG := fun v σ H Q => ∃ Ze, tDG (Y.blk Ze) is g v σ H Q
def tXI (Y : Cy) (f : DI) : TI := fun σ H Q => ∃ Ze, tDIw (Y.blk Ze) f σ H Q
end
section
variable {X : Cx} {Y : Cy} {O : Addr → Prop} {ρ : DEnv} {σ : L2.St} {H : Hp}
theorem Lk.blk (k : Lk X Y) (s : Shared) (H : Hp) (scope : Scope) (cenv : Env) (fp : List Addr) (Ze : Addr → Prop) : Lk (X.blk s H scope cenv fp) (Y.blk Ze) :=
  ⟨k.K, k.ln, takes0, k.rm, k.hd, k.nd, PassesOwn.never, k.calm⟩
/-- the loop of a comprehension -/
theorem comp_core {vs is : List Nat} {g : DG} {c : DT} {e : DE} {J : It} {l ys : List D} {H0 : Hp} {Qd : Addr → Hp → Prop} (s : SR Y O ρ σ H0) (hw : okW vs ρ = true) (hl : l.length ≤ lineD) (hk : ∀ i ∈ is, i ∈ vs) (w : WalkW Y.G (Zo Y.Ze O) H0 J l) (hc : compL g c e (wipD vs ρ) l = .ok ys)
    (hq : ∀ D H' us, Same H0 H' → H0 D = none → H' D = some (.lst us) → RepL Y.G (fun a => Zo Y.Ze O a ∨ a = D) H' ys us → Qd D H') :
    ∀ D, H0 D = none → ∃ W : Nat → Nat → Hp → Prop, (∃ m, W 0 m (upd H0 D (.lst []))) ∧ ∀ i m H, W i m H →
      (J.stop i H ∧ Qd D H) ∨ (J.go i H ∧ ∃ Nx : Hp → Prop, (∀ H', Nx H' → ∃ m', m' < m ∧ W (i + 1) m' H') ∧ ∀ x H', J.yld i H x H' → tXG Y is g x (L2.wipe σ vs) H' fun σ2 H2 => L2.wipe σ2 vs = L2.wipe σ vs ∧ tXT Y c σ2 H2 fun b H3 =>
        if b = true then tX Y e σ2 H3 fun y H4 => ∃ acc, H4 D = some (.lst acc) ∧ acc.length < sizeLine ∧ Nx (upd H4 D (.lst (acc ++ [y]))) else Nx H3) := by
  intro D hD
  let P : Nat → Hp → Prop := fun i H' => Same H0 H' ∧ ∃ acc us, H' D = some (.lst us) ∧ RepL Y.G (fun a => Zo Y.Ze O a ∨ a = D) H' acc us ∧ acc.length ≤ i ∧ ∃ rest, compL g c e (wipD vs ρ) (l.drop i) = .ok rest ∧ ys = acc ++ rest
  refine ⟨fun i m H' => m = l.length - i ∧ i ≤ l.length ∧ P i H', ⟨_, rfl, Nat.zero_le _, same_new hD, [], [], upd_same, rfl, Nat.zero_le _, ys, by rw [List.drop_zero]; exact hc, rfl⟩, ?_⟩
  rintro i m H' ⟨rfl, hi, sm, acc, us, hu, ru, ha, rest, hr, hy⟩
  have zz : ∀ a, (fun a => Zo Y.Ze O a ∨ a = D) a → Zo Y.Ze O a ∨ H0 a = none := fun a z => z.elim .inl fun e => .inr (by rw [e]; exact hD)
  have ww := w i H' (fun a => Zo Y.Ze O a ∨ a = D) sm zz
  have hne : H' D ≠ none := by rw [hu]; exact fun z => by cases z
  by_cases hlt : i < l.length
  · obtain ⟨d, hd, e1⟩ := drop_cons hlt
    obtain ⟨go, yl⟩ := ww.1 d hd
    rw [e1] at hr
    refine .inr ⟨go, fun H2 => i + 1 ≤ l.length ∧ P (i + 1) H2, fun H2 h => ⟨l.length - (i + 1), by omega, rfl, h.1, h.2⟩, fun x H3 y => ?_⟩
    obtain ⟨s3, r3⟩ := yl x H3 y
    have sb : SR (Y.blk fun a => Y.Ze a ∨ a = D) O (wipD vs ρ) (L2.wipe σ vs) H3 := (s.wipe hw).blk (sm.trans s3) hD fun q => hne (s3.free q)
    have zo : ∀ a, Zo (fun a => Y.Ze a ∨ a = D) O a ↔ Zo Y.Ze O a ∨ a = D := fun a => by
      constructor
      · rintro ((z | z) | z)
        · exact .inl (.inl z)
        · exact .inr z
        · exact .inl (.inr z)
      · rintro ((z | z) | z)
        · exact .inl (.inl z)
        · exact .inr z
        · exact .inl (.inr z)
    refine ⟨fun a => Y.Ze a ∨ a = D, O, wipD vs ρ, d, sb, r3.weak fun a z => (zo a).mp z, ?_⟩
    simp only [compL] at hr
    cases eg : g d (wipD vs ρ) with
    | no => rw [eg] at hr; cases hr
    | ex e => rw [eg] at hr; cases hr
    | ok ρ1 =>
      rw [eg] at hr
      simp only at hr
      intro O1 σ1 st1 s1 off ow
      refine ⟨off.wipe hk, fun a => Y.Ze a ∨ a = D, O1, ρ1, s1, ?_⟩
      have sub1 : ∀ a, O1 a → O a ∨ H3 a = none := st1.2
      cases ec : c ρ1 with
      | no => rw [ec] at hr; cases hr
      | ex e => rw [ec] at hr; cases hr
      | ok b =>
        rw [ec] at hr
        intro H4 s4
        cases b with
        | false =>
          rw [if_neg Bool.false_ne_true]
          have s04 := sm.trans (s3.trans s4)
          exact ⟨hlt, s04, acc, us, (s3.trans s4) _ _ hu, ru.same (s3.trans s4), Nat.le_succ_of_le ha, rest, hr, hy⟩
        | true =>
          rw [if_pos rfl]
          simp only at hr
          refine ⟨fun a => Y.Ze a ∨ a = D, O1, ρ1, s1.same s4, ?_⟩
          cases ee : e ρ1 with
          | no => rw [ee] at hr; cases hr
          | ex x => rw [ee] at hr; cases hr
          | ok d2 =>
            rw [ee] at hr
            simp only at hr
            cases er : compL g c e (wipD vs ρ) (l.drop (i + 1)) with
            | no => rw [er] at hr; cases hr
            | ex x => rw [er] at hr; cases hr
            | ok rest2 =>
              rw [er] at hr
              cases hr
              intro v H5 s5 rv
              have s35 := s3.trans (s4.trans s5)
              have hu5 : H5 D = some (.lst us) := s35 _ _ hu
              have ll := ru.length
              refine ⟨us, hu5, ?_, hlt, fun b o q => ?_, acc ++ [d2], us ++ [v], upd_same, ?_, by rw [List.length_append, List.length_singleton]; omega, rest2, er, by rw [hy, List.append_assoc]; rfl⟩
              · rw [lineD_eq]; omega
              · rw [upd_ne (ne_of_none q hD)]
                exact s35 b o (sm b o q)
              · have sb : Sub (fun a => Zo Y.Ze O a ∨ a = D) H5 (upd H5 D (.lst (us ++ [v]))) := fun b o n q => by
                  rw [upd_ne fun e => n (.inr e)]
                  exact q
                refine RepL.mono sb (fun a z => .inl z) ((ru.same s35).append (RepL.one ?_))
                refine Rep.mono (Same.sub (Same.refl H5)) (fun a z => ?_) rv
                rcases z with (z | z) | z
                · exact .inl (.inl (.inl z))
                · exact .inl (.inr (ow (fun i hi' => wip_noown hw (hk i hi')) a z))
                · exact .inl (.inl (.inr z))
  · have e1 : i = l.length := by omega
    subst e1
    rw [List.drop_length] at hr
    cases hr
    rw [List.append_nil] at hy
    subst hy
    exact .inl ⟨ww.2 (Nat.le_refl _), hq D H' us sm hD hu ru⟩
def PDTs (X : Cx) (Y : Cy) (ifs : List Expr) (f : DT) : Prop := Lk X Y → PTs X ifs (tDT Y f)
theorem impPTs {X : Cx} {e : List Expr} {t t' : TT} (h : PTs X e t) (i : ∀ σ H Q, t' σ H Q → t σ H Q) : PTs X e t' := ⟨fun pins s σ H Q I q => h.run pins s σ H Q I (i σ H Q q)⟩
theorem dts_nil : PDTs X Y [] tYesD := fun k => impPTs pts_nil fun σ H Q ⟨O, ρ, s, q⟩ => q H (Same.refl H)
theorem dts_one {c : Expr} {f : DT} (h : PDT X Y c f) : PDTs X Y [c] f := fun k => pts_one (h k)
theorem PE.xall {e : Expr} {f : DE} (h : ∀ Ze, PE X e (tD (Y.blk Ze) f)) : PE X e (tX Y f) := ⟨fun pins s σ H Q I ⟨Ze, q⟩ => (h Ze).run pins s σ H Q I q⟩
theorem PTs.xall {e : List Expr} {f : DT} (h : ∀ Ze, PTs X e (tDT (Y.blk Ze) f)) : PTs X e (tXT Y f) := ⟨fun pins s σ H Q I ⟨Ze, q⟩ => (h Ze).run pins s σ H Q I q⟩
theorem PG.xall {e : Expr} {is : List Nat} {f : DG} (h : ∀ Ze, PG X e (tDG (Y.blk Ze) is f)) : PG X e (tXG Y is f) := ⟨fun pins s σ H v u Q I r ⟨Ze, q⟩ => (h Ze).run pins s σ H v u Q I r q⟩
theorem PI.xall {tg e : Expr} {f : DI} (h : ∀ Ze, PI X tg e (tDIw (Y.blk Ze) f)) : PI X tg e (tXI Y f) := ⟨fun pins s σ H Q I ⟨Ze, q⟩ => (h Ze).run pins s σ H Q I q⟩
variable {elt tg iter : Expr} {ifs : List Expr} {scope : Scope} {own : List (Str × Nat)} {pos : Pos} {fi : DI} {g : DG} {c : DT} {e : DE} {is : List Nat}
/-- a comprehension's reading, from what is wanted of its list -/
theorem comp_imp {Qv : VK} (hk : ∀ i ∈ is, i ∈ own.map (·.2)) (σ : L2.St) (H : Hp) (O : Addr → Prop) (ρ : DEnv) (s : SR Y O ρ σ H) (he : ∀ e', fi ρ = .ex e' → ∀ c od H', Same H H' → ExRep Y.G (Zo Y.Ze O) H' e' c od → Y.E c od σ H')
    (h : ∃ l ys, (fi ρ = .ok l ∧ l.length ≤ lineD ∧ okW (own.map (·.2)) ρ = true ∧ compL g c e (wipD (own.map (·.2)) ρ) l = .ok ys ∧ ∀ D H' us, Same H H' → H D = none → H' D = some (.lst us) → RepL Y.G (fun a => Zo Y.Ze O a ∨ a = D) H' ys us → Qv (.ref D) H') ∨ ∃ e', fi ρ = .ex e') :
    tLc (tDIw Y fi) (tXG Y is g) (tXT Y c) (tX Y e) (own.map (·.2)) σ H Qv := by
  refine ⟨O, ρ, s, ?_⟩
  obtain ⟨l, ys, h | ⟨e', h⟩⟩ := h
  · obtain ⟨ea, hl, hw, hc, hq⟩ := h
    rw [ea]
    intro J H1 s1 w D hD
    exact comp_core (Qd := fun D H' => Qv (.ref D) H') (s.same s1) hw hl hk w hc (fun D H' us s2 h0 h1 r => hq D H' us (s1.trans s2) (s1.free h0) h1 r) D hD
  · rw [h]
    exact he e' h
theorem pd_comp (hi : PDIw X Y tg iter fi) (ok : BlkOk X.N X.env.scope scope own) (hk : ∀ i ∈ is, i ∈ own.map (·.2))
    (hg : ∀ (Ze : Addr → Prop) (s : Shared) (H : Hp) (C : Addr) (cl : List (Str × Addr)) (fp : List Addr), PDG (X.blk s H scope (compEnvC scope cl C X.env) fp) (Y.blk Ze) is tg g)
    (ht : ∀ (Ze : Addr → Prop) (s : Shared) (H : Hp) (C : Addr) (cl : List (Str × Addr)) (fp : List Addr), PDTs (X.blk s H scope (compEnvC scope cl C X.env) fp) (Y.blk Ze) ifs c)
    (he : ∀ (Ze : Addr → Prop) (s : Shared) (H : Hp) (C : Addr) (cl : List (Str × Addr)) (fp : List Addr), PD (X.blk s H scope (compEnvC scope cl C X.env) fp) (Y.blk Ze) elt e)
    (hs : ∀ x, foldedSetIterable iter X.env x = pure x := by intro _; rfl) (hca : Y.ca = true := by rfl) : PD X Y (.ListComp elt [⟨tg, iter, ifs, 0⟩] scope pos) (eComp fi (own.map (·.2)) g c e) := fun k => by
  refine impPE (pe_lc (k.calm hca) k.nd (hi k) ok (fun s H C cl fp => PG.xall fun Ze => hg Ze s H C cl fp (k.blk s H scope _ fp Ze)) (fun s H C cl fp => PTs.xall fun Ze => ht Ze s H C cl fp (k.blk s H scope _ fp Ze)) (fun s H C cl fp => PE.xall fun Ze => he Ze s H C cl fp (k.blk s H scope _ fp Ze)) hs) fun σ H Q ⟨O, ρ, s, q⟩ => ?_
  unfold eComp at q
  refine comp_imp hk σ H O ρ s (fun e' ee => by rw [ee] at q; exact q) ?_
  cases ea : fi ρ with
  | no => rw [ea] at q; exact q.elim
  | ex e' => exact ⟨[], [], .inr ⟨e', rfl⟩⟩
  | ok l =>
    rw [ea] at q
    simp only [R.bind_ok] at q
    split at q
    · rename_i hl
      cases ec : compL g c e (wipD (own.map (·.2)) ρ) l with
      | no => rw [ec] at q; exact q.elim
      | ex e' => 
        rw [ec] at q
        exact (compL_ex ec).elim
      | ok ys =>
        rw [ec] at q
        refine ⟨l, ys, .inl ⟨rfl, hl.1, hl.2, ec, fun D H' us s1 h0 h1 r => q _ H' s1 ⟨D, us, rfl, fun z => s.zt D z h0, h1, r.weak fun a z => .inl z⟩⟩⟩
    · exact q.elim
theorem ds_comp {i : Nat} {y : Str} {py spos : Pos} (hy : X.N[i]? = some y) (hn : i < Y.n) (hyl : X.env.scope.names.lookup y = some .local) (hsw : swapsWith (.ListComp elt [⟨tg, iter, ifs, 0⟩] scope pos) (some (.Name y py)) spos.line X.env = pure true)
    (hi : PDIw X Y tg iter fi) (ok : BlkOk X.N X.env.scope scope own) (hk : ∀ i ∈ is, i ∈ own.map (·.2))
    (hg : ∀ (Ze : Addr → Prop) (s : Shared) (H : Hp) (C : Addr) (cl : List (Str × Addr)) (fp : List Addr), PDG (X.blk s H scope (compEnvC scope cl C X.env) fp) (Y.blk Ze) is tg g)
    (ht : ∀ (Ze : Addr → Prop) (s : Shared) (H : Hp) (C : Addr) (cl : List (Str × Addr)) (fp : List Addr), PDTs (X.blk s H scope (compEnvC scope cl C X.env) fp) (Y.blk Ze) ifs c)
    (he : ∀ (Ze : Addr → Prop) (s : Shared) (H : Hp) (C : Addr) (cl : List (Str × Addr)) (fp : List Addr), PD (X.blk s H scope (compEnvC scope cl C X.env) fp) (Y.blk Ze) elt e)
    (hs : ∀ x, foldedSetIterable iter X.env x = pure x := by intro _; rfl) (hca : Y.ca = true := by rfl) : PDS X Y (.Assign [.Name y py] (.ListComp elt [⟨tg, iter, ifs, 0⟩] scope pos) spos) (sSet i (eComp fi (own.map (·.2)) g c e)) := fun k => by
  refine impPS (ps_setLc (k.calm hca) k.nd hy hyl hsw (hi k) ok (fun s H C cl fp => PG.xall fun Ze => hg Ze s H C cl fp (k.blk s H scope _ fp Ze)) (fun s H C cl fp => PTs.xall fun Ze => ht Ze s H C cl fp (k.blk s H scope _ fp Ze)) (fun s H C cl fp => PE.xall fun Ze => he Ze s H C cl fp (k.blk s H scope _ fp Ze)) hs) fun N σ H ⟨O, ρ, s, q⟩ => ?_
  unfold sSet eComp at q
  refine comp_imp hk σ H O ρ s (fun e' ee => by rw [ee] at q; exact fun c od H' s' xr => q O σ H' c od (Stp.same s') (s.same s') xr) ?_
  cases ea : fi ρ with
  | no => rw [ea] at q; exact q.elim
  | ex e' => exact ⟨[], [], .inr ⟨e', rfl⟩⟩
  | ok l =>
    rw [ea] at q
    simp only [R.bind_ok] at q
    split at q
    · rename_i hl
      cases ec : compL g c e (wipD (own.map (·.2)) ρ) l with
      | no => rw [ec] at q; exact q.elim
      | ex e' => exact (compL_ex ec).elim
      | ok ys =>
        rw [ec] at q
        refine ⟨l, ys, .inl ⟨rfl, hl.1, hl.2, ec, fun D H' us s1 h0 h1 r => ?_⟩⟩
        simp only [R.bind_ok, R.st_ok] at q
        cases es : setV i (.lst ys) ρ with
        | no => rw [es] at q; exact q.elim
        | ex e => exact (setV_no es).elim
        | ok ρ' =>
          rw [es] at q
          obtain ⟨O', st, s', _⟩ := (s.same s1).setv es hn (v := .ref D) ⟨D, us, rfl, fun z => s.zt D z h0, h1, r.weak fun a z => .inl z⟩
          exact q O' _ H' ((Stp.same s1).trans st) s'
    · exact q.elim
end
end Tw

set_option maxHeartbeats 2000000
namespace Tw
open PySem PySem.Spec L2
open PyProof.Rows hiding St
def vRep (x : Str) (y : V) : List Str → List V → List V
  | k :: ks, v :: vs => (if k = x then y else v) :: vRep x y ks vs
  | _, _ => []
def vPut (x : Str) (y : V) (ks : List Str) (vs : List V) : List V := if x ∈ ks then vRep x y ks vs else vs ++ [y]
theorem any_sKeys {x : Str} : ∀ {ks : List Str} {vs : List V}, ks.length = vs.length → ((sKeys ks vs).any fun kv => decide (kv.1 = (Sum.inr x : Key))) = decide (x ∈ ks)
  | [], vs, e => by cases vs <;> simp_all [sKeys]
  | k :: ks, [], e => by simp at e
  | k :: ks, v :: vs, e => by
    have ih := any_sKeys (x := x) (ks := ks) (vs := vs) (by simpa using e)
    simp only [sKeys, List.any_cons, ih]
    by_cases q : k = x
    · subst q; simp
    · have q' : ¬ (Sum.inr k : Key) = Sum.inr x := fun z => q (Sum.inr.inj z)
      have q2 : ¬ x = k := fun z => q z.symm
      simp [q', q2, q]
theorem map_sKeys {x : Str} {y : V} : ∀ {ks : List Str} {vs : List V}, ks.length = vs.length → ((sKeys ks vs).map fun kv => if kv.1 = (Sum.inr x : Key) then (kv.1, y) else kv) = sKeys ks (vRep x y ks vs)
  | [], vs, e => by cases vs <;> simp_all [sKeys]
  | k :: ks, [], e => by simp at e
  | k :: ks, v :: vs, e => by
    have ih := map_sKeys (x := x) (y := y) (ks := ks) (vs := vs) (by simpa using e)
    simp only [sKeys, vRep, List.map_cons, ih]
    by_cases q : k = x
    · subst q; simp
    · have q' : ¬ (Sum.inr k : Key) = Sum.inr x := fun z => q (Sum.inr.inj z)
      simp [q', q]
theorem sKeys_snoc {x : Str} {y : V} : ∀ {ks : List Str} {vs : List V}, ks.length = vs.length → sKeys ks vs ++ [(Sum.inr x, y)] = sKeys (ks ++ [x]) (vs ++ [y])
  | [], vs, e => by cases vs <;> simp_all [sKeys]
  | k :: ks, [], e => by simp at e
  | k :: ks, v :: vs, e => by
    have ih := sKeys_snoc (x := x) (y := y) (ks := ks) (vs := vs) (by simpa using e)
    simp only [sKeys, List.cons_append, ih]
theorem putK_s {x : Str} {y : V} {ks : List Str} {vs : List V} (e : ks.length = vs.length) : putK (sKeys ks vs) (Sum.inr x : Key) y = sKeys (dPutK x ks) (vPut x y ks vs) := by
  unfold putK dPutK vPut
  rw [any_sKeys e]
  by_cases q : x ∈ ks
  · rw [if_pos q, if_pos q, if_pos (decide_eq_true q), map_sKeys e]
  · rw [if_neg q, if_neg q, if_neg (by rw [decide_eq_false q]; exact Bool.false_ne_true), sKeys_snoc e]
theorem vRep_len {x : Str} {y : V} : ∀ {ks : List Str} {vs : List V}, ks.length = vs.length → (vRep x y ks vs).length = ks.length
  | [], vs, e => by cases vs <;> simp_all [vRep]
  | k :: ks, [], e => by simp at e
  | k :: ks, v :: vs, e => by simp [vRep, vRep_len (x := x) (y := y) (ks := ks) (vs := vs) (by simpa using e)]
theorem vPut_len {x : Str} {y : V} {ks : List Str} {vs : List V} (e : ks.length = vs.length) : (dPutK x ks).length = (vPut x y ks vs).length := by
  unfold dPutK vPut
  by_cases q : x ∈ ks
  · rw [if_pos q, if_pos q, vRep_len e]
  · rw [if_neg q, if_neg q, List.length_append, List.length_append, e]; rfl
theorem rep_vRep {G : Gc} {Z : Addr → Prop} {H : Hp} {x : Str} {d : D} {y : V} (ry : Rep G Z H d y) : ∀ {ks : List Str} {l : List D} {vs : List V}, ks.length = vs.length → RepL G Z H l vs → RepL G Z H (repDv x d ks l) (vRep x y ks vs)
  | [], l, vs, e, r => by cases l <;> cases vs <;> simp_all [repDv, vRep, RepL]
  | k :: ks, l, [], e, r => by simp at e
  | k :: ks, [], v :: vs, e, r => by cases (show v :: vs = [] from r)
  | k :: ks, d' :: l, v :: vs, e, r => by
    obtain ⟨v', w, e', r1, r2⟩ := r
    cases e'
    simp only [repDv, vRep]
    refine ⟨_, _, rfl, ?_, rep_vRep ry (by simpa using e) r2⟩
    by_cases q : k = x
    · rw [if_pos q, if_pos q]; exact ry
    · rw [if_neg q, if_neg q]; exact r1
theorem rep_vPut {G : Gc} {Z : Addr → Prop} {H : Hp} {x : Str} {d : D} {y : V} (ry : Rep G Z H d y) {ks : List Str} {l : List D} {vs : List V} (e : ks.length = vs.length) (r : RepL G Z H l vs) : RepL G Z H (dPutV x d ks l) (vPut x y ks vs) := by
  unfold dPutV vPut
  by_cases q : x ∈ ks
  · rw [if_pos q, if_pos q]; exact rep_vRep ry e r
  · rw [if_neg q, if_neg q]; exact r.append (RepL.one ry)
section
variable {X : Cx} {Y : Cy} {O : Addr → Prop} {ρ : DEnv} {σ : L2.St} {H : Hp} {a b e o : Expr} {fa fb : DE} {pos p p2 apos cpos pos' : Pos} {x : Str} {i : Nat}
theorem Stp.own {O : Addr → Prop} {H : Hp} {p : Addr} {o : HO} (h : O p) : Stp O H O (upd H p o) := ⟨fun a u n e => by rw [upd_ne fun q => n (by rw [q]; exact h)]; exact e, fun a z => .inl z⟩
/-- the receiver x is the def's own container -/
theorem own_at {d : D} (s : SR Y O ρ σ H) (hi : ρ[i]? = some (some (.own d))) : ∃ p, σ[i]? = some (some (.ref p)) ∧ O p ∧ RepW Y.G (Zo Y.Ze O) H d (.ref p) := by
  obtain ⟨α, s⟩ := s
  obtain ⟨e, _, r⟩ := s.own i d hi
  exact ⟨_, e, (s.oeq _).mpr ⟨i, ⟨d, .inl hi⟩, rfl⟩, r⟩
/-- the write of the container at i -/
theorem SR.write {d d' : D} {p : Addr} {o : HO} (s : SR Y O ρ σ H) (hi : ρ[i]? = some (some (.own d))) (hp : σ[i]? = some (some (.ref p))) (r : RepW Y.G (Zo Y.Ze O) (upd H p o) d' (.ref p)) : SR Y O (ρ.set i (some (.own d'))) σ (upd H p o) := by
  obtain ⟨p', e, _, _, s'⟩ := s.mut (d' := d') (o := o) hi fun q eq _ _ _ => by
    rw [hp] at eq; cases eq; exact r
  rw [hp] at e
  cases e
  exact s'
theorem sub_upd {p : Addr} {o : HO} (h : O p) : Sub (Zo Y.Ze O) H (upd H p o) := fun a u n e => by
  rw [upd_ne fun q => n (.inr (by rw [q]; exact h))]
  exact e
/-- x.append(e) -/
theorem ds_append {i : Nat} (hN : X.N[i]? = some x) (ha : PD X Y a fa) (hv : Vis X.env.scope x := by first | exact Or.inl rfl | exact Or.inr (Or.inl rfl) | exact Or.inr (Or.inr rfl)) (hd : (x == ("__debug__" : Str)) = false := by decide) (hcd : (x == ("__classdict__" : Str)) = false := by decide)
    (hbase : attributeBase (.Name x p) "append" X.env (eval (.Name x p) X.env) = eval (.Name x p) X.env := by rfl)
    (hfew : ((backTo cpos (starEach (a :: []) X.env)).all (fun x => !x.1) && (backToKw cpos (keywordEach [] X.env)).all (fun x => x.1.isSome)
      && decide ((a :: []).length + ([] : List Keyword).length + (if ([] : List Keyword).isEmpty then 0 else 1) < 30)) = true := by rfl)
    (hline : (apos.endLine == cpos.line) = true := by rfl) (hs : starEach (a :: []) X.env = (false, eval a X.env) :: starEach [] X.env := by rfl) (hplain : (backTo cpos (starEach [] X.env)).any (·.1) = false := by rfl)
    (hsw : swapsWith (.Call (.Attribute (.Name x p) "append" apos) [a] [] cpos) none pos.line X.env = pure false := by rfl) :
    PDS X Y (.Expr (.Call (.Attribute (.Name x p) "append" apos) [a] [] cpos) pos) (sApp i fa) := fun k => by
  refine impPS (ps_expr (pe_bm PySem.F.plainAttrs_list PySem.F.slot_list_append PySem.F.type_list_append mt_append (pe_var hN hv hd hcd) (pa_cons (ha k) pa_nil hs) hbase hfew hline hs hplain) hsw) fun N σ H ⟨O, ρ, s, q⟩ => ?_
  unfold sApp at q
  split at q
  · rename_i l hi
    obtain ⟨pl, hp, Op, rl⟩ := own_at s hi
    obtain ⟨_, vs, e, hl, rv⟩ := rl
    cases e
    refine ⟨.ref pl, hp, .inl ⟨rfl, vs, SqL.of hl⟩, exp_then s q fun d ea q v H1 s1 r1 => ?_⟩
    split at q
    · rename_i hlen
      have hl1 := s1 _ _ hl
      refine ⟨pl, vs, v, rfl, rfl, hl1, by rw [lineD_eq, ← rv.length]; exact hlen, ?_⟩
      have s' := (s.same s1).write (d' := .lst (l ++ [d])) (o := .lst (vs ++ [v])) hi hp ⟨pl, _, rfl, upd_same, RepL.mono (sub_upd Op) (fun _ z => .inl z) ((rv.same s1).append (RepL.one r1))⟩
      exact q O σ _ ((Stp.same s1).trans (Stp.own Op)) s'
    · exact q.elim
  · exact q.elim
/-- x[k] = e, x the def's own dict -/
theorem ds_dput {i : Nat} (hN : X.N[i]? = some x) (hb : PDw X Y b fb) (ha : PD X Y a fa) (hv : Vis X.env.scope x := by first | exact Or.inl rfl | exact Or.inr (Or.inl rfl) | exact Or.inr (Or.inr rfl)) (hd : (x == ("__debug__" : Str)) = false := by decide) (hcd : (x == ("__classdict__" : Str)) = false := by decide)
    (hs : swapsWith a (some (.Subscript (.Name x p) b pos')) pos.line X.env = pure false := by rfl) : PDS X Y (.Assign [.Subscript (.Name x p) b pos'] a pos) (sPutD i fb fa) := fun k => by
  refine impPS (ps_dput (hu_L k.rm) (pe_var hN hv hd hcd) (hb k) (ha k) hs) fun N σ H ⟨O, ρ, s, q⟩ => ?_
  unfold sPutD at q
  refine exp_then s q fun d ea q v H1 s1 r1 => ?_
  split at q
  · rename_i ks l hi
    obtain ⟨pl, hp, Op, rl⟩ := own_at (s.same s1) hi
    obtain ⟨_, vs, e, hl, hlen, rv⟩ := rl
    cases e
    refine ⟨.ref pl, hp, expw_then (s.same s1) (SPost.fwd (Stp.same s1) q) fun dk ek q2 u H2 s2 r2 => ?_⟩
    cases dk with
    | str z =>
      simp only at q2
      split at q2
      · rename_i hz
        obtain rfl : u = .str z := r2
        have hl2 := s2 _ _ hl
        refine ⟨pl, _, rfl, DPut.k (k := Sum.inr z) hl2 (by rw [len_sKeys hlen, lineD_eq]; exact hz), ?_⟩
        have s' := ((s.same s1).same s2).write (d' := .dct (dPutK z ks) (dPutV z d ks l)) (o := .dK (putK (sKeys ks vs) (Sum.inr z) v)) hi hp
          ⟨pl, vPut z v ks vs, rfl, by rw [upd_same, putK_s hlen], vPut_len hlen, RepL.mono (sub_upd Op) (fun _ z => .inl z) (rep_vPut (r1.same s2) hlen (rv.same s2))⟩
        exact q2 O σ _ ((Stp.same s2).trans (Stp.own Op)) s'
      · exact q2.elim
    | _ => exact q2.elim
  · exact q.elim
end
end Tw

set_option maxHeartbeats 2000000
namespace Tw
open PySem PySem.Spec L2
open PyProof.Rows hiding St
def putVv (x : Str) (y : V) : List Str → List V → List V
  | k :: ks, v :: vs => if x = k then y :: vs else v :: putVv x y ks vs
  | _, _ => [y]
theorem putF_k {f : Str} {y : V} : ∀ {ks : List Str} {vs : List V}, ks.length = vs.length → L2.putF f y (fKeys ks vs) = fKeys (putDk f ks) (putVv f y ks vs)
  | [], vs, e => by cases vs <;> simp_all [fKeys, putDk, putVv, L2.putF]
  | k :: ks, [], e => by simp at e
  | k :: ks, v :: vs, e => by
    have ih := putF_k (f := f) (y := y) (ks := ks) (vs := vs) (by simpa using e)
    by_cases q : f = k
    · subst q; simp [fKeys, putDk, putVv, L2.putF]
    · have q' : ¬ k = f := fun z => q z.symm
      simp [fKeys, putDk, putVv, L2.putF, q, q', ih]
theorem putVv_len {f : Str} {y : V} : ∀ {ks : List Str} {vs : List V}, ks.length = vs.length → (putDk f ks).length = (putVv f y ks vs).length
  | [], vs, e => by cases vs <;> simp_all [putDk, putVv]
  | k :: ks, [], e => by simp at e
  | k :: ks, v :: vs, e => by
    have ih := putVv_len (f := f) (y := y) (ks := ks) (vs := vs) (by simpa using e)
    by_cases q : f = k
    · subst q; simp [putDk, putVv]; simpa using e
    · simp [putDk, putVv, q, ih]
theorem putDk_mem {f g : Str} : ∀ {ks : List Str}, g ∈ putDk f ks → g = f ∨ g ∈ ks
  | [], h => .inl (by simpa [putDk] using h)
  | k :: ks, h => by
    unfold putDk at h
    by_cases q : f = k
    · rw [if_pos q] at h; exact .inr h
    · rw [if_neg q] at h
      rcases List.mem_cons.mp h with e | h
      · exact .inr (by rw [e]; exact List.mem_cons_self)
      · rcases putDk_mem h with e | h
        · exact .inl e
        · exact .inr (List.mem_cons_of_mem _ h)
theorem repGL_put {G : Gc} {Z : Addr → Prop} {α : Nat → Addr} {ρ : DEnv} {H : Hp} {f : Str} {d : D} {y : V} (ry : RepG G Z α ρ H d y) : ∀ {ks : List Str} {l : List D} {vs : List V}, ks.length = vs.length → RepGL G Z α ρ H l vs → RepGL G Z α ρ H (putDv f d ks l) (putVv f y ks vs)
  | [], l, vs, e, r => by
    obtain rfl : vs = [] := by cases vs <;> simp_all
    unfold putDv putVv
    exact ⟨y, [], rfl, ry, rfl⟩
  | k :: ks, l, [], e, r => by simp at e
  | k :: ks, [], v :: vs, e, r => by cases (show v :: vs = [] from r)
  | k :: ks, d' :: l, v :: vs, e, r => by
    obtain ⟨v', w, e', r1, r2⟩ := r
    cases e'
    by_cases q : f = k
    · subst q
      simp only [putDv, putVv, if_pos]
      exact ⟨y, _, rfl, ry, r2⟩
    · simp only [putDv, putVv, if_neg q]
      exact ⟨v, _, rfl, r1, repGL_put ry (by simpa using e) r2⟩
theorem RepG.of {G : Gc} {Z : Addr → Prop} {α : Nat → Addr} {ρ : DEnv} {H : Hp} {d : D} {v : V} (h : Rep G Z H d v) : RepG G Z α ρ H d v := by
  cases d with
  | gst j => exact h.elim
  | _ => exact h
theorem isOwn_setSlf {ρ : DEnv} {i j : Nat} {d d' : D} (hi : ρ[i]? = some (some (.slf d))) : isOwn (ρ.set i (some (.slf d'))) j ↔ isOwn ρ j := by
  have hl : i < ρ.length := (List.getElem?_eq_some_iff.mp hi).1
  refine ⟨fun h => ?_, fun h => ?_⟩
  · rcases isOwn_set h with ⟨e, _⟩ | ⟨_, k⟩
    · rw [e]; exact ⟨d, .inr (.inl hi)⟩
    · exact k
  · by_cases hj : j = i
    · subst hj
      exact ⟨d', .inr (.inl (List.getElem?_set_self hl))⟩
    · obtain ⟨d'', h⟩ := h
      refine ⟨d'', ?_⟩
      rw [List.getElem?_set_ne (Ne.symm hj)]
      exact h
/-- the object under construction is changed in its place -/
theorem SR.mutS {Y : Cy} {O : Addr → Prop} {ρ : DEnv} {σ : L2.St} {H : Hp} {i : Nat} {d d' : D} (s : SR Y O ρ σ H) (hi : ρ[i]? = some (some (.slf d))) {f : Str} {dv : D} {y : V} (ry : Rep Y.G (Zo Y.Ze O) H dv y) (hp : putF f dv d = some d') :
    ∃ c ks l dx vs, d = .obj c ks l ∧ d' = .obj c (putDk f ks) (putDv f dv ks l) ∧ f ∈ fldOf c ∧ Y.G.has c ∧ ks.length < 999 ∧ ks.length = vs.length ∧ σ[i]? = some (some (.ref Y.sa)) ∧ O Y.sa ∧ H Y.sa = some (.ins (Y.G.cm c) dx (fKeys ks vs)) ∧
      SR Y O (ρ.set i (some (.slf d'))) σ (upd H Y.sa (.ins (Y.G.cm c) dx (L2.putF f y (fKeys ks vs)))) := by
  obtain ⟨α, s⟩ := s
  have hl : i < ρ.length := (List.getElem?_eq_some_iff.mp hi).1
  obtain ⟨ei, ea, c, ks, l, dx, vs, rfl, hH, ⟨hlen, hc, hf⟩, rl⟩ := s.slf i d hi
  have oi : isOwn ρ i := ⟨_, .inr (.inl hi)⟩
  have Oi : O (α i) := (s.oeq _).mpr ⟨i, oi, rfl⟩
  unfold putF at hp
  simp only at hp
  split at hp
  rotate_left
  · cases hp
  rename_i hpk
  cases hp
  rw [ea] at ei Oi hH
  have sub : ∀ j, isOwn (ρ.set i (some (.slf (.obj c (putDk f ks) (putDv f dv ks l))))) j ↔ isOwn ρ j := fun j => isOwn_setSlf hi
  have sb : Sub (Zo Y.Ze O) H (upd H Y.sa (.ins (Y.G.cm c) dx (L2.putF f y (fKeys ks vs)))) := fun a u n e => by
    rw [upd_ne fun q => n (.inr (by rw [q]; exact Oi))]
    exact e
  have an : ∀ j, isOwn ρ j → j ≠ i → α j ≠ Y.sa := fun j h n e => n (s.inj j i h oi (e.trans ea.symm))
  have rw' : ∀ {d : D} {p : Addr}, p ≠ Y.sa → RepW Y.G (Zo Y.Ze O) H d (.ref p) → RepW Y.G (Zo Y.Ze O) (upd H Y.sa (.ins (Y.G.cm c) dx (L2.putF f y (fKeys ks vs)))) d (.ref p) := fun {d p} hp r => by
    cases d with
    | lst l => obtain ⟨a, vs, e, t, r⟩ := r; cases e; exact ⟨_, vs, rfl, by rw [upd_ne hp]; exact t, r.mono sb fun _ q => .inl q⟩
    | dct ks l => obtain ⟨a, vs, e, t, k, r⟩ := r; cases e; exact ⟨_, vs, rfl, by rw [upd_ne hp]; exact t, k, r.mono sb fun _ q => .inl q⟩
    | obj c ks l => obtain ⟨a, dx, vs, e, t, k, r⟩ := r; cases e; exact ⟨_, dx, vs, rfl, by rw [upd_ne hp]; exact t, k, r.mono sb fun _ q => .inl q⟩
    | _ => exact Rep.mono sb (fun _ q => .inl q) r
  have gl : ∀ {ds : List D} {vs' : List V}, RepGL Y.G (Zo Y.Ze O) α ρ H ds vs' → RepGL Y.G (Zo Y.Ze O) α (ρ.set i (some (.slf (.obj c (putDk f ks) (putDv f dv ks l))))) (upd H Y.sa (.ins (Y.G.cm c) dx (L2.putF f y (fKeys ks vs)))) ds vs' := by
    intro ds
    induction ds with
    | nil => intro vs h; exact h
    | cons d ds ih =>
      intro vs h
      obtain ⟨v, r, e, h1, h2⟩ := h
      refine ⟨v, r, e, ?_, ih h2⟩
      cases d with
      | gst j =>
        obtain ⟨e, d'', kk⟩ := h1
        have hki : j ≠ i := fun e => by subst e; rw [hi] at kk; cases kk
        exact ⟨e, d'', by rw [List.getElem?_set_ne (Ne.symm hki)]; exact kk⟩
      | _ => exact Rep.mono sb (fun _ q => .inl q) h1
  refine ⟨c, ks, l, dx, vs, rfl, rfl, hpk.2, hc, hpk.1, hlen, ei, Oi, hH, α, by rw [List.length_set]; exact s.len, fun j d'' e => ?_, fun j d'' e => ?_, fun j d'' e => ?_, fun j d'' e => ?_, fun j k hj hk e => s.inj j k ((sub j).mp hj) ((sub k).mp hk) e, fun a => ?_, fun a z q => ?_, fun a z q => ?_, ptrA s.ptr (fun q => by cases q)⟩
  · rcases set_at e with ⟨_, q⟩ | ⟨_, q⟩
    · cases q
    · obtain ⟨v, e1, r⟩ := s.val j d'' q
      exact ⟨v, e1, r.mono sb fun _ q => .inl q⟩
  · rcases set_at e with ⟨_, q⟩ | ⟨hj, q⟩
    · cases q
    · obtain ⟨e1, n, r⟩ := s.own j d'' q
      exact ⟨e1, n, rw' (an j ⟨d'', .inl q⟩ hj) r⟩
  · rcases set_at e with ⟨rfl, q⟩ | ⟨hj, q⟩
    · cases q
      refine ⟨by rw [ei, ea], ea, c, _, _, dx, putVv f y ks vs, rfl, ?_, ⟨putVv_len hlen, hc, fun g hg => (putDk_mem hg).elim (fun e => by rw [e]; exact hpk.2) (hf g)⟩, repGL_put (RepG.of (ry.mono sb fun _ q => .inl q)) hlen (gl rl)⟩
      rw [ea, upd_same, putF_k hlen]
    · obtain ⟨e1, n, c, ks, l, dx, vs, e2, e3, e4, r⟩ := s.slf j d'' q
      exact absurd n (an j ⟨d'', .inr (.inl q)⟩ hj)
  · rcases set_at e with ⟨_, q⟩ | ⟨hj, q⟩
    · cases q
    · obtain ⟨r, k⟩ := s.gho j d'' q
      exact ⟨rw' (an j ⟨d'', .inr (.inr q)⟩ hj) r, k⟩
  · rw [s.oeq]
    exact ⟨fun ⟨j, k, e⟩ => ⟨j, (sub j).mpr k, e⟩, fun ⟨j, k, e⟩ => ⟨j, (sub j).mp k, e⟩⟩
  · by_cases h : a = Y.sa
    · subst h; rw [upd_same] at q; cases q
    · rw [upd_ne h] at q; exact s.zt a z q
  · by_cases h : a = Y.sa
    · subst h; rw [upd_same] at q; cases q
    · rw [upd_ne h] at q; exact s.ot a z q
theorem fKeys_len : ∀ {ks : List Str} {vs : List V}, ks.length = vs.length → (fKeys ks vs).length = ks.length
  | [], vs, e => by cases vs <;> simp_all [fKeys]
  | k :: ks, [], e => by simp at e
  | k :: ks, v :: vs, e => by simp [fKeys, fKeys_len (ks := ks) (vs := vs) (by simpa using e)]
section
variable {X : Cx} {Y : Cy} {a b e o tg : Expr} {fa fb : DE} {pos pos' p p2 : Pos} {x f : Str} {i : Nat}
/-- self.f = e -/
theorem ds_fld (hN : X.N[i]? = some x) (ha : PD X Y a fa) (hv : Vis X.env.scope x := by first | exact Or.inl rfl | exact Or.inr (Or.inl rfl) | exact Or.inr (Or.inr rfl)) (hd : (x == ("__debug__" : Str)) = false := by decide) (hcd : (x == ("__classdict__" : Str)) = false := by decide)
    (hs : swapsWith a (some (.Attribute (.Name x p) f pos')) pos.line X.env = pure false := by rfl) : PDS X Y (.Assign [.Attribute (.Name x p) f pos'] a pos) (sFld i f fa) := fun k => by
  refine impPS (ps_fld (pe_var hN hv hd hcd) (ha k) hs) fun N σ H ⟨O, ρ, s, q⟩ => ?_
  unfold sFld at q
  refine exp_then s q fun d ea q v H1 s1 r1 => ?_
  split at q
  · rename_i ds hi
    split at q
    · rename_i d' hp
      obtain ⟨c, ks, l, dx, vs, e1, e2, e3, e4, e5, e6, e7, e8, e9, s'⟩ := (s.same s1).mutS hi r1 hp
      refine ⟨_, e7, Y.sa, Y.G.cm c, dx, fKeys ks vs, rfl, e9, k.K ▸ Y.G.cls c e4, k.K ▸ Y.G.noat c f e4 e3, by rw [fKeys_len e6]; omega, ?_⟩
      exact q O σ _ ((Stp.same s1).trans (Stp.own e8)) s'
    · exact q.elim
  · exact q.elim
end
theorem envD_get {n : Nat} {ds : List D} {i : Nat} {x : Option Slot} (h : (envD n ds)[i]? = some x) : (∃ d, ds[i]? = some d ∧ x = some (.val d)) ∨ x = none := by
  unfold envD at h
  by_cases hi : i < ds.length
  · rw [List.getElem?_append_left (by simpa using hi), List.getElem?_map] at h
    obtain ⟨d, hd, e⟩ := Option.map_eq_some_iff.mp h
    exact .inl ⟨d, hd, e.symm⟩
  · rw [List.getElem?_append_right (by simpa using hi), List.getElem?_replicate] at h
    split at h
    · exact .inr (Option.some.inj h).symm
    · cases h
theorem envD_len {n : Nat} {ds : List D} (h : ds.length ≤ n) : (envD n ds).length = n := by
  unfold envD
  rw [List.length_append, List.length_map, List.length_replicate]
  omega
theorem start_get {N : List Str} {vs : List V} {i : Nat} {v : V} (h : vs[i]? = some v) : (start N vs)[i]? = some (some v) := by
  unfold L2.start
  rw [List.getElem?_append_left (by simpa using (List.getElem?_eq_some_iff.mp h).1), List.getElem?_map, h]
  rfl
theorem start_len {N : List Str} {vs : List V} (h : vs.length ≤ N.length) : (start N vs).length = N.length := by
  unfold L2.start
  rw [List.length_append, List.length_map, List.length_replicate]
  omega
theorem SR.start {Y : Cy} {N : List Str} {ds : List D} {vs : List V} {H : Hp} (hn : Y.n = N.length) (hl : ds.length ≤ N.length) (zt : ∀ a, Y.Ze a → H a ≠ none) (r : RepL Y.G Y.Ze H ds vs) : SR Y (fun _ => False) (envD N.length ds) (L2.start N vs) H := by
  have no : ∀ i, ¬ isOwn (envD N.length ds) i := fun i ⟨d, h⟩ => by
    rcases h with h | h | h
    all_goals
      rcases envD_get h with ⟨_, _, e⟩ | e
      · cases e
      · cases e
  have z : ∀ a, Zo Y.Ze (fun _ => False) a → Y.Ze a := fun a z => z.elim id False.elim
  refine ⟨fun _ => 0, ⟨by rw [start_len (by rw [← r.length]; exact hl), hn], by rw [envD_len hl, hn]; exact Nat.le_refl _⟩, fun i d e => ?_, fun i d e => absurd ⟨d, .inl e⟩ (no i), fun i d e => absurd ⟨d, .inr (.inl e)⟩ (no i), fun i d e => absurd ⟨d, .inr (.inr e)⟩ (no i), fun i j hi => absurd hi (no i), fun a => ⟨False.elim, fun ⟨i, h, _⟩ => no i h⟩, zt, fun a h => h.elim, fun i e => by rcases envD_get e with ⟨_, _, e⟩ | e <;> cases e⟩
  rcases envD_get e with ⟨d', hd, e⟩ | e
  · cases e
    obtain ⟨v, hv, rv⟩ := r.get hd
    exact ⟨v, start_get hv, rv.weak z⟩
  · cases e
theorem SR.startS {Y : Cy} {N : List Str} {s : D} {ds : List D} {vs : List V} {H : Hp} (hn : Y.n = N.length) (hl : ds.length + 1 ≤ N.length) (zt : ∀ a, Y.Ze a → H a ≠ none) (ob : ObjAt Y.G Y.Ze H Y.sa s) (hz : Y.Ze Y.sa) (r : RepL Y.G Y.Ze H ds vs) :
    SR Y (fun a => a = Y.sa) (some (.slf s) :: envD (N.length - 1) ds) (L2.start N (.ref Y.sa :: vs)) H := by
  have on : ∀ i, isOwn (some (.slf s) :: envD (N.length - 1) ds) i ↔ i = 0 := fun i => by
    refine ⟨fun ⟨d, h⟩ => ?_, fun e => by subst e; exact ⟨s, .inr (.inl rfl)⟩⟩
    cases i with
    | zero => rfl
    | succ i =>
      rcases h with h | h | h
      all_goals
        rcases envD_get (i := i) (by simpa using h) with ⟨_, _, e⟩ | e
        · cases e
        · cases e
  have z : ∀ a, Zo Y.Ze (fun a => a = Y.sa) a → Y.Ze a := fun a z => z.elim id fun e => by rw [e]; exact hz
  have gl : ∀ {ρ : DEnv} {l : List D} {vs : List V}, RepL Y.G Y.Ze H l vs → RepGL Y.G (Zo Y.Ze fun a => a = Y.sa) (fun _ => Y.sa) ρ H l vs := by
    intro ρ l
    induction l with
    | nil => intro vs h; exact h
    | cons d l ih =>
      intro vs h
      obtain ⟨v, w, e, h1, h2⟩ := h
      exact ⟨v, w, e, RepG.of (h1.weak z), ih h2⟩
  obtain ⟨c, ks, l, dx, us, e1, e2, e3, e4⟩ := ob
  refine ⟨fun _ => Y.sa, ⟨by rw [start_len (by rw [List.length_cons, ← r.length]; exact hl), hn], by rw [List.length_cons, envD_len (by omega), hn]; omega⟩, fun i d e => ?_, fun i d e => ?_, fun i d e => ?_, fun i d e => ?_, fun i j hi hj _ => ((on i).mp hi).trans ((on j).mp hj).symm, fun a => ⟨fun h => ⟨0, (on 0).mpr rfl, h.symm⟩, fun ⟨i, _, h⟩ => h.symm⟩, zt, fun a h => by rw [h]; exact zt _ hz, fun i e => by cases i with | zero => cases e | succ i => rcases envD_get (i := i) (by simpa using e) with ⟨_, _, e⟩ | e <;> cases e⟩
  · cases i with
    | zero => cases e
    | succ i =>
      rcases envD_get (i := i) (by simpa using e) with ⟨d', hd, e⟩ | e
      · cases e
        obtain ⟨v, hv, rv⟩ := r.get hd
        exact ⟨v, start_get (by simpa using hv), rv.weak z⟩
      · cases e
  · exact absurd ((on i).mp ⟨d, .inl e⟩) (fun h => by subst h; cases e)
  · obtain rfl := (on i).mp ⟨d, .inr (.inl e)⟩
    cases e
    exact ⟨start_get rfl, rfl, c, ks, l, dx, us, e1, e2, e3, gl e4⟩
  · exact absurd ((on i).mp ⟨d, .inr (.inr e)⟩) (fun h => by subst h; cases e)
section
variable {P : Program} {w : World} {K : PySem.W.Frag} {mg : Str → Option Value} {base : Heap} {x qual : Str} {params : Arguments} {body : List Stmt} {scope : Scope} {dvs : List V} {kws : List (Str × V)} {f : Addr} {fd : FuncData} {N ps : List Str} {k : Nat} {G : Gc} {b : DS}
theorem ExRep.weak {G : Gc} {Z Z' : Addr → Prop} {H : Hp} {e : Ex} {c : Value} {od : Option Addr} (z : ∀ a, Z' a → Z a) (h : ExRep G Z H e c od) : ExRep G Z' H e c od := by
  obtain ⟨e1, d, us, e2, e3, e4, e5⟩ := h
  exact ⟨e1, d, us, e2, e3, e4, e5.weak z⟩
/-- the context of a def's body -/
def cyOf (G : Gc) (Ze : Addr → Prop) (sa : Addr) (E : XK) (k : Nat) (N : List Str) : Cy := ⟨G, Ze, sa, fun c d _ H => E c d H, k, N.length, true, fun _ => .non⟩
theorem lk_of {cdv : Value} {A : Around} {outer : List Env} {s : Shared} {H : Hp} {E : XK} {Ze : Addr → Prop} {sa : Addr} (hK : G.K = K) (S : FnScope N ps scope) (hr : Room k (A.deeper (envOfC qual scope s.heap.objs.size f cdv))) :
    Lk (cxOf (L2.CX P w) P w K mg base N qual scope f cdv A outer s H E) (cyOf G Ze sa E k N) where
  K := hK.symm
  ln := rfl
  tk := takes_of rfl rfl rfl rfl
  rm := Room.lo hr
  hd := fun _ => hr.hd
  nd := S.nd
  po := passes_of rfl
  calm := fun _ => rfl
theorem fn_dsp (F : FunD K x qual params body scope dvs kws f fd) (hK : G.K = K) (S : FnScope N ps scope) (hl : ps.length ≤ N.length)
    (hb : ∀ (cdv : Value) (A : Around) (outer : List Env) (s : Shared) (H : Hp) (E : XK) (Ze : Addr → Prop), PDSs (cxOf (L2.CX P w) P w K mg base N qual scope f cdv A outer s H E) (cyOf G Ze 0 E k N) body b) :
    FnOk P w K mg base (L2.CX P w) (k + 1) f fd ps (dsp G (defD N.length ps.length b)) := by
  have hlen : ∀ ds, (∀ (H : Hp) (Q : VK) (E : XK) (Ze : Addr → Prop), DPost G Ze H Q E (defD N.length ps.length b ds) → ds.length = ps.length) := fun ds H Q E Ze q => by
    unfold defD at q
    split at q
    · assumption
    · exact q.elim
  refine F.ok S (fun vs H Q E h => ?_) fun cdv A outer s H vs Q E hr h => ?_
  · obtain ⟨Ze, ds, _, r, q⟩ := h
    rw [← r.length]
    exact hlen ds H Q E Ze q
  · obtain ⟨Ze, ds, zt, r, q⟩ := h
    have hd := hlen ds H Q E Ze q
    refine ⟨_, hb cdv A outer s H E Ze (lk_of hK S hr), fun _ => False, envD N.length ds, SR.start (Y := cyOf G Ze 0 E k N) rfl (by rw [hd]; exact hl) zt r, ?_⟩
    unfold defD at q
    rw [if_pos hd] at q
    have sm : ∀ {O' : Addr → Prop} {H' : Hp}, Stp (fun _ => False) H O' H' → Same H H' := fun st a o e => st.1 a o (fun z => z) e
    have zw : ∀ {O' : Addr → Prop}, ∀ a, Ze a → Zo Ze O' a := fun a z => .inl z
    cases eb : b (envD N.length ds) with
    | no => rw [eb] at q; exact q.elim
    | ex e => rw [eb] at q; exact q.elim
    | ok o =>
      rw [eb] at q
      cases o with
      | nx ρ => exact fun O' σ' H' st s' => q .non H' (sm st) rfl
      | bk ρ => exact q.elim
      | ct ρ => exact q.elim
      | rt d ρ => exact fun O' σ' H' v st s' rv => q v H' (sm st) (Rep.weak zw rv)
      | xx e ρ => exact fun O' σ' H' c od st s' xr => q c od H' (sm st) (xr.weak zw)
theorem RepGL.plain {G : Gc} {Z : Addr → Prop} {α : Nat → Addr} {ρ : DEnv} {H : Hp} : ∀ {l : List D} {vs : List V}, noGst l = true → RepGL G Z α ρ H l vs → RepL G Z H l vs
  | [], vs, _, h => h
  | d :: l, vs, n, h => by
    obtain ⟨v, r, e, h1, h2⟩ := h
    cases d with
    | gst j => cases n
    | _ => exact ⟨v, r, e, h1, RepGL.plain n h2⟩
theorem fn_init (F : FunD K x qual params body scope dvs kws f fd) (hK : G.K = K) (S : FnScope N ps scope) (hl : ps.length ≤ N.length)
    (hb : ∀ (cdv : Value) (A : Around) (outer : List Env) (s : Shared) (H : Hp) (E : XK) (Ze : Addr → Prop) (sa : Addr), PDSs (cxOf (L2.CX P w) P w K mg base N qual scope f cdv A outer s H E) (cyOf G Ze sa E k N) body b) :
    FnOk P w K mg base (L2.CX P w) (k + 1) f fd ps (dspM G (initP N.length ps.length b)) := by
  have hlen : ∀ s ds, (∀ (H : Hp) (Q : VK) (E : XK) (Ze : Addr → Prop) (a : Addr), IPost G Ze a H Q E (initP N.length ps.length b s ds) → ds.length + 1 = ps.length) := fun s ds H Q E Ze a q => by
    unfold initP at q
    split at q
    · assumption
    · exact q.elim
  refine F.ok S (fun vs H Q E h => ?_) fun cdv A outer s H vs Q E hr h => ?_
  · obtain ⟨Ze, a, s, us, ds, rfl, _, _, _, r, q⟩ := h
    rw [List.length_cons, ← r.length]
    exact hlen s ds H Q E Ze a q
  · obtain ⟨Ze, a, so, us, ds, rfl, hz, zt, ob, r, q⟩ := h
    have hd := hlen so ds H Q E Ze a q
    refine ⟨_, hb cdv A outer s H E Ze a (lk_of hK S hr), fun b => b = a, some (.slf so) :: envD (N.length - 1) ds, SR.startS (Y := cyOf G Ze a E k N) rfl (by rw [hd]; exact hl) zt ob hz r, ?_⟩
    unfold initP at q
    rw [if_pos hd] at q
    have sm : ∀ {O' : Addr → Prop} {H' : Hp}, Stp (fun b => b = a) H O' H' → ∀ b o, b ≠ a → H b = some o → H' b = some o := fun st b o n e => st.1 b o n e
    have zw : ∀ {O' : Addr → Prop}, ∀ a, Ze a → Zo Ze O' a := fun a z => .inl z
    have fin : ∀ {O' : Addr → Prop} {σ' : L2.St} {H' : Hp} {d : D} {ρ : DEnv} {v : V}, IPost G Ze a H Q E (slfP ρ d) → Stp (fun b => b = a) H O' H' → SR (cyOf G Ze a E k N) O' ρ σ' H' → Rep G Ze H' d v → Q v H' := by
      intro O' σ' H' d ρ v q st s' rv
      unfold slfP at q
      split at q
      · rename_i c ks l tl
        split at q
        · rename_i hg
          obtain ⟨α, s'⟩ := s'
          obtain ⟨e1, e2, c', ks', l', dx, vs, e3, e4, e5, e6⟩ := s'.slf 0 (.obj c ks l) rfl
          cases e3
          rw [e2] at e4
          exact q v H' (sm st) ⟨c, ks, l, dx, vs, rfl, e4, e5, (e6.plain hg).weak zw⟩ rv
        · exact q.elim
      · exact q.elim
    cases eb : b (some (.slf so) :: envD (N.length - 1) ds) with
    | no => rw [eb] at q; exact q.elim
    | ex e => rw [eb] at q; exact q.elim
    | ok o =>
      rw [eb] at q
      cases o with
      | nx ρ => exact fun O' σ' H' st s' => fin q st s' rfl
      | bk ρ => exact q.elim
      | ct ρ => exact q.elim
      | rt d ρ => exact fun O' σ' H' v st s' rv => fin q st s' (Rep.weak zw rv)
      | xx e ρ => exact fun O' σ' H' c od st s' xr => q c od H' (sm st) (s'.zt a (.inl hz)) (xr.weak zw)
end
section
variable {X : Cx} {Y : Cy} {O : Addr → Prop} {ρ : DEnv} {σ : L2.St} {H : Hp} {a : Expr} {fa : DE}
end
end Tw

set_option maxHeartbeats 2000000
namespace Tw
open PySem PySem.Spec L2
open PyProof.Rows hiding St
abbrev FrB := PySem.W.Frag → Bool
def obsT (fb : List FrB) (fa : List He.Fa) (fn : List He5.DefA) (K : PySem.W.Frag) : He.AlD := ((fb.all fun f => f K) && ((fa.all fun f => f.ok K) && fn.all fun d => d.ok K), fn.map fun d => He5.fnA K (d.at_ K))
def valT (fn : List He5.DefA) : He.AlD := (true, fn.map He5.DefA.val)
def SaysT (fb : List FrB) (fa : List He.Fa) (fn : List He5.DefA) (K : PySem.W.Frag) : Prop := obsT fb fa fn K = valT fn
section
variable {fb : List FrB} {fa : List He.Fa} {fn : List He5.DefA} {K : PySem.W.Frag}
theorem SaysT.all3 (c : SaysT fb fa fn K) : (fb.all fun f => f K) = true ∧ (fa.all fun f => f.ok K) = true ∧ (fn.all fun d => d.ok K) = true := by
  have z : ((fb.all fun f => f K) && ((fa.all fun f => f.ok K) && fn.all fun d => d.ok K)) = true := congrArg Prod.fst c
  obtain ⟨z1, z⟩ := Bool.and_eq_true_iff.mp z
  obtain ⟨z2, z3⟩ := Bool.and_eq_true_iff.mp z
  exact ⟨z1, z2, z3⟩
theorem SaysT.own (c : SaysT fb fa fn K) (i : Nat) {f : FrB} (h : fb[i]? = some f := by rfl) : f K = true := List.all_eq_true.mp c.all3.1 f (List.mem_of_getElem? h)
theorem SaysT.fact (c : SaysT fb fa fn K) (i : Nat) {f : He.Fa} (h : fa[i]? = some f := by rfl) : f.ok K = true := List.all_eq_true.mp c.all3.2.1 f (List.mem_of_getElem? h)
theorem SaysT.def_ (c : SaysT fb fa fn K) (i : Nat) {d : He5.DefA} (h : fn[i]? = some d := by rfl) : ∃ fd, L2.FunD K d.name d.qual d.params d.body d.scope (d.dvs K) (d.kws K) (d.at_ K) fd := by
  have z : fn.map (fun d => He5.fnA K (d.at_ K)) = fn.map He5.DefA.val := congrArg Prod.snd c
  have z1 : (fn.map fun d => He5.fnA K (d.at_ K))[i]? = (fn.map He5.DefA.val)[i]? := by rw [z]
  rw [List.getElem?_map, List.getElem?_map, h] at z1
  exact He5.DefA.funD (Option.some.inj z1) (List.all_eq_true.mp c.all3.2.2 d (List.mem_of_getElem? h))
end
def cmOf (K : PySem.W.Frag) (c : String) : Addr := He.ga K (Str.ofString c)
def gAd (x : Str) (K : PySem.W.Frag) : Addr := He.ga K x
def mAd (c m : Str) (K : PySem.W.Frag) : Addr := He.ma K (He.ga K c) m
def sAd (c m : Str) (K : PySem.W.Frag) : Addr := He5.wf K (He.ga K c) "staticmethod" m
/-- a staticmethod read off its class -/
def smB (c m : Str) : FrB := fun K => decide (PySem.W.readsIn K (He.ga K c) (.type "type") = true) && (decide (PySem.W.specialIn K (.ref (He.ga K c)) "__getattribute__" = some (some (.builtin "type.__getattribute__"))) &&
  (He5.wrapB K (He.ga K c) "staticmethod" "staticmethod.__get__" m && PySem.W.keepIn K (.ref (sAd c m K))))
theorem smB_ok {K : PySem.W.Frag} {c m : Str} (h : smB c m K = true) : CFn K (He.ga K c) m (sAd c m K) := by
  obtain ⟨h1, h⟩ := Bool.and_eq_true_iff.mp h
  obtain ⟨h2, h⟩ := Bool.and_eq_true_iff.mp h
  obtain ⟨h3, h4⟩ := Bool.and_eq_true_iff.mp h
  obtain ⟨w1, r, w2⟩ := He5.wrapB_ok h3
  exact ⟨of_decide_eq_true h1, of_decide_eq_true h2, .inr ⟨_, r, w1, w2⟩, h4⟩
/-- a plain def read off its class -/
def pmB (c m : Str) : FrB := fun K => decide (PySem.W.readsIn K (He.ga K c) (.type "type") = true) && (decide (PySem.W.specialIn K (.ref (He.ga K c)) "__getattribute__" = some (some (.builtin "type.__getattribute__"))) &&
  ((match PySem.W.findCls K (.ref (He.ga K c)) (.type "type") m with
    | some (.val (.ref a)) => decide (a = mAd c m K)
    | _ => false) && PySem.W.keepIn K (.ref (mAd c m K))))
theorem pmB_ok {K : PySem.W.Frag} {c m : Str} (h : pmB c m K = true) : CFn K (He.ga K c) m (mAd c m K) := by
  obtain ⟨h1, h⟩ := Bool.and_eq_true_iff.mp h
  obtain ⟨h2, h⟩ := Bool.and_eq_true_iff.mp h
  obtain ⟨h3, h4⟩ := Bool.and_eq_true_iff.mp h
  refine ⟨of_decide_eq_true h1, of_decide_eq_true h2, .inl ?_, h4⟩
  split at h3
  · rename_i a e
    rw [e, of_decide_eq_true h3]
  · cases h3
section
variable {X : Cx} {Y : Cy} {pos : Pos} {x : Str}
theorem pd_gstr {z : Str} (hg : Gl X x) (hm : ∃ t, X.mg x = some (.str z t)) (hd : (x == ("__debug__" : Str)) = false := by decide) : PD X Y (.Name x pos) (eC (.str z)) := by
  obtain ⟨t, hm⟩ := hm
  exact pd_glob (v := .str z) hg hm ⟨t, rfl⟩ (fun _ _ => rfl) hd
theorem pd_gint {z : Int} (hg : Gl X x) (hm : ∃ t, X.mg x = some (.int z t)) (hd : (x == ("__debug__" : Str)) = false := by decide) : PD X Y (.Name x pos) (eC (.int z)) := by
  obtain ⟨t, hm⟩ := hm
  exact pd_glob (v := .int z) hg hm ⟨t, rfl⟩ (fun _ _ => rfl) hd
end
/-- exceptions of any world -/
def CXw (P : Program) : CXT := fun outer H s E e s' => ∃ w, L2.CX P w outer H s E e s'
theorem FnOk.anyW {P : Program} {w : World} {K : PySem.W.Frag} {mg : Str → Option Value} {base : Heap} {k : Nat} {f : Addr} {fd : FuncData} {ps : List Str} {sp : Sp} (F : FnOk P w K mg base (L2.CX P w) k f fd ps sp) : FnOk P w K mg base (CXw P) k f fd ps sp :=
  ⟨F.len, fun A outer s H args us vs Q E hr e0 hb hv hs => codeAny_mono (F.run A outer s H args us vs Q E hr e0 hb hv hs) fun r s' q => by
    cases r with
    | ok fl => cases fl <;> exact q
    | error e => exact ⟨w, q⟩⟩
theorem CXw.no {P : Program} {H : Hp} {s : Shared} {e : Value} {s' : Shared} (c : CXw P [] H s (fun _ _ _ => False) e s') : False := by
  obtain ⟨w, a, B, H', cls, d, _, _, _, _, _, _, _, z⟩ := c
  exact z
end Tw

set_option maxHeartbeats 2000000
namespace Tw
open PySem PySem.Spec L2
open PyProof.Rows hiding St
/-- what K holds of the __init__ at f of the exception class at D -/
structure XcF (P : Program) (K : PySem.W.Frag) (D f : Addr) (fd : FuncData) (cda cc : Addr) : Prop where
  fn : ∃ oc od osl, K.lookup f = some ⟨oc, od, .func fd, osl⟩
  self : ∃ ar, (fd.params.posonlyargs ++ fd.params.args).head? = some ar ∧ ar.arg = "self"
  code : ∃ c1 c2 vs c3 file tf, K.lookup cda = some ⟨c1, c2, .fields vs, c3⟩ ∧ vs[2]? = some (.str file tf) ∧ ((P.main.file : Str) == file) = true
  cell : ∃ c1 c2 c3, K.lookup cc = some ⟨c1, c2, .cell (some (.ref D)), c3⟩
  cls : ∃ cd, PySem.W.clsIn K D = some cd
  sub : PySem.W.mroIn K D (.ref D) = some true
  stat : PySem.W.nsIn K cStatics "thirdparty.any" = some none
  sup : PySem.W.ks_superIn K D D "__init__" = some (some (.builtin "ValueError.__init__"))
  ve : PySem.W.subIn K (.ref D) (.type "ValueError") = some true
  top : (P.main.scope.names.lookup ("super" : Str)).isSome = false
section
open PySem.ESX PySem.HandSPX
variable {prog : Program} {w : World} {A : Around} {E : Value → Shared → Prop} {hp : Heap} {g : Array GenState} {d : Drawn} {t : Nat} {os : OsState}
variable {nm q : Str} {C N : Addr} {bs bm : List Value} {hdct : Bool} {sn : List Str} {sub : List Value} {ab : Bool} {col : Option Bool} {dd : Option Addr} {k0 k1 k2 k3 k5 : Option Value}
/-- the bound ValueError.__init__ is called -/
theorem call_mw {u x t0 : Addr} {us : List Value} {Q : Value → Shared → Prop}
    (hC : hp.get? C = some (excClassObj nm q C N bs bm hdct sn sub ab col dd k0 k1 k2 k3 k5 "ValueError.__new__")) (hx : hp.get? x = some (HandSPX.excO C t0)) (hu : hp.get? u = some (PySem.W.kxs_mw "ValueError.__init__" x)) (hl : us.length ≤ sizeLine)
    (hq : ∀ h2 t1, (∀ b o, b ≠ x → hp.get? b = some o → h2.get? b = some o) → h2.get? x = some (HandSPX.excO C t1) → Q .none ⟨h2, g, d, t, os⟩) :
    wpAny (model prog w) A (call (.ref u) us) Q E ⟨hp, g, d, t, os⟩ := by
  have mw : (Value.type "method-wrapper" == Value.type "method" || Value.type "method-wrapper" == Value.type "builtin_function_or_method" || Value.type "method-wrapper" == Value.type "method-wrapper") = true := by decide
  refine wpAny_call (codeAny_of_tree ?_)
  show wpAny (model prog w) A.in1 (callAny (.ref u) ⟨us, []⟩) _ _ _
  simp only [callAny]
  refine wpAny_bind (wpAny_load hu ?_)
  simp only [PySem.W.kxs_mw, mw, if_true]
  refine PySem.W.KFB.if_so (by decide) ?_
  refine wpAny_bind (check_bound F.excBase_ValueError hC hx rfl (wpAny_bind (wpAny_pure (wpAny_pure ?_))))
  refine ⟨Code.quiet_builtin _ (by decide +kernel), codeAny_builtin F.excBase_ValueError.initEntry ?_⟩
  rw [Around.under_plainId F.excBase_ValueError.init.plain _]
  wp_walk
  refine hq _ hp.objs.size (fun b o hb ho => (Heap.get?_update_other _ _ (Ne.symm hb)).trans (Heap.get?_push_of_some _ ho)) ?_
  exact (Heap.get?_update_self _ (Heap.get?_push_of_some _ hx) rfl).trans rfl
end
section
variable {X : Cx} {D f cda cc a : Addr} {fd : FuncData} {σ : L2.St} {H : Hp} {s : Shared} {body : List Stmt} {E : Value → Shared → Prop} {p0 p1 p2 apos pos : Pos} {m : Str} {j : Nat}
/-- the text's call super().__init__(m) is a method's call like others (its lines are one) -/
def HeX (p0 p1 p2 apos pos : Pos) (m : Str) (j : Nat) (env : Env) : Prop :=
  eval (.Call (.Attribute (.Call (.Name "super" p0) [] [] p1) "__init__" apos) [.Constant (.str m) j p2] [] pos) env = (do
    let ov ← attributeBase (.Call (.Name "super" p0) [] [] p1) "__init__" env (eval (.Call (.Name "super" p0) [] [] p1) env)
    standAt apos.atName
    let (g, fs) ← holding [ov] (getMethod ov "__init__" (do return (← importBound (.Call (.Name "super" p0) [] [] p1) env).getD true))
    callWith pos g fs (backTo pos (starEach [.Constant (.str m) j p2] env)) [])
theorem super_init (F : XcF X.prog X.K D f fd cda cc) (T : OexC X.K D) (I : Inv X [] σ H s) (hgs : X.mg "super" = none) (hks : X.env.kindOf "super" = some .globalImplicit) (hkc : X.env.kindOf "__class__" = some .free) (hkl : X.env.kindOf "self" = some .local)
    (hfu : X.env.func = some f) (hcd : X.env.code = .ref cda) (hcl : X.env.cells.lookup ("__class__" : Str) = some cc) {i : Nat} (hN : X.N[i]? = some ("self" : Str)) (hσ : σ[i]? = some (some (.ref a))) (ha : H a = some (exo a D none))
    (he : HeX p0 p1 p2 apos pos m j X.env)
    (hst : starEach (.Constant (.str m) j p2 :: []) X.env = (false, eval (.Constant (.str m) j p2) X.env) :: starEach [] X.env) {Q : Value → Shared → Prop} (h : ∀ s', Inv X [] σ H s' → Q .none s') :
    _root_.PySem.wpAt (model X.prog X.w) X.A (.func body X.env) (eval (.Call (.Attribute (.Call (.Name "super" p0) [] [] p1) "__init__" apos) [.Constant (.str m) j p2] [] pos) X.env) Q X.xe s := by
  obtain ⟨oc, od, osl, hf⟩ := F.fn
  obtain ⟨ar, har, earg⟩ := F.self
  obtain ⟨c1, c2, vs, c3, file, tf, hco, hvs, hfile⟩ := F.code
  obtain ⟨d1, d2, d3, hcell⟩ := F.cell
  obtain ⟨cd, hcls⟩ := F.cls
  have KI := I.kIn
  obtain ⟨mb, h1, h2⟩ := I.mod.blt
  obtain ⟨mL, hn, hlook⟩ := I.loc
  obtain ⟨t1, hex⟩ := exo_at I.hok ha
  obtain ⟨u, ru, hu⟩ := hlook i "self" (.ref a) hN hσ (Or.inl hkl)
  obtain rfl : u = Value.ref a := ru
  have hself : mL "self" = some (.ref a) := by
    rcases hu with ⟨_, e⟩ | ⟨k, _⟩
    · exact e
    · rw [hkl] at k
      rcases k with k | k <;> cases k
  refine PySem.ks_wpAt_MethodCall ?_ he
  refine PySem.ks_wpAt_super_base hks hkc (by decide) hfu (KI _ _ hf) rfl har hcd (KI _ _ hco) rfl hvs hfile F.top ?_
  refine PySem.W.ks_loadName_global I.ok.kind hks (Calls.loadGlobal_builtin (by rw [I.ok.glob]; exact I.mod.glob.keeps I.bk) hgs (by rw [I.ok.blt]; exact h1.keeps I.bk) ((h2 _ (by decide)).trans PyProof.Rows.Boot.«super») ⟨rfl, ?_⟩)
  refine wpAny_loadName_free I.ok.kind hkc hcl ⟨_, KI _ _ hcell, rfl⟩ ?_
  rw [earg]
  refine wpAny_loadName_local I.ok.kind hkl hn hself ?_
  obtain ⟨oD, hD1, hD2⟩ : ∃ oD, s.heap.get? D = some oD ∧ oD.data = .cls cd := by
    unfold PySem.W.clsIn at hcls
    split at hcls
    · rename_i q1 q2 cd' q4 ho
      cases hcls
      exact ⟨_, KI _ _ ho, rfl⟩
    · cases hcls
  have sup := F.sup
  unfold PySem.W.ks_superIn at sup
  rw [hcls] at sup
  refine PySem.ks_wpAny_isType_cls hD1 hD2 ⟨rfl, ?_⟩
  refine PySem.ks_wpAny_call_super hD1 hD2 hex rfl (fun c z => by cases z) (PySem.W.looks_mroIn KI F.sub) (fun h1 e1 k1 => ?_)
  have I1 : Inv X [] σ H { s with heap := h1 } := I.kept k1
  have J : PySem.W.InstAt h1 a (PySem.HandSPX.excO D t1) D none := ⟨k1 _ _ hex, rfl, rfl, trivial⟩
  have hI : PySem.W.Looks (model X.prog X.w) h1 (isInstance (.ref a) (.type "ValueError")) true := J.type.andThen (PySem.W.looks_subIn I1.kIn F.ve)
  have hne := PySem.W.ks_ne I1.kIn J hcls
  have hM : PySem.W.Looks (model X.prog X.w) h1 (mroOf (.ref D)) cd.mro := fun A Q E s k q => wpAny_bind ((PySem.W.looks_clsIn I1.kIn hcls) A _ E s k (wpAny_pure q))
  refine PySem.W.kxs_getMethod PySem.W.kxs_ValueError e1 (PySem.W.looks_opaque I1.kIn F.stat) hM rfl I1.kIn sup hI hne (by decide) ?_
  have k2 : ∀ b o, h1.get? b = some o → (h1.push (PySem.W.kxs_mw "ValueError.__init__" a)).get? b = some o := fun b o z => Heap.get?_push_of_some _ z
  have I2 : Inv X [] σ H { s with heap := h1.push (PySem.W.kxs_mw "ValueError.__init__" a), toks := s.toks + 1 } := I1.kept k2
  have hu2 : (h1.push (PySem.W.kxs_mw "ValueError.__init__" a)).get? h1.objs.size = some (PySem.W.kxs_mw "ValueError.__init__" a) := Heap.get?_push_at rfl rfl
  refine PySem.W.kxs_callWith (i := "ValueError.__init__") (x := a) (by rw [hst]; rfl) ?_
  rw [hst]
  refine PySem.Calls.evalArgs_plain ?_
  have Ip : Inv X [(h1.objs.size, PySem.W.kxs_mw "ValueError.__init__" a)] σ H { s with heap := h1.push (PySem.W.kxs_mw "ValueError.__init__" a), toks := s.toks + 1 } := I2.pins_of fun p hp => by
    rw [List.mem_singleton] at hp
    subst hp
    exact ⟨hu2, I1.hok.fresh (Nat.le_refl _), Nat.ne_of_gt I1.lt, I1.nofs (Nat.le_refl _), fun v z => by cases z⟩
  have R := (pa_cons (X := X) (pe_str (x := m) (j := j) (pos := p2)) pa_nil hst).run pos _ _ σ H (fun vs H' => vs = [V.str m] ∧ H' = H) Ip ⟨rfl, rfl⟩
  rw [hst] at R
  refine thn R fun us s3 hh => ?_
  obtain ⟨vs', H', I3, rv, rfl, rfl⟩ := hh
  have hu3 := (I3.pin (h1.objs.size, PySem.W.kxs_mw "ValueError.__init__" a) (List.mem_append_right _ List.mem_cons_self)).1
  have I4 : Inv X [] σ H' s3 := I3.pins_of fun p hp => by cases hp
  obtain ⟨t3, hex3⟩ := exo_at I4.hok ha
  obtain ⟨nm, q, N, bs, bm, sn, sub, ab, col, dd, k0, k1', k2', k3, k5, hC, hbm⟩ := T.cls
  refine ⟨hu3, ?_⟩
  have hus : us.length ≤ sizeLine := by
    rw [← rv.length, sizeLine_eq]
    exact Nat.le_of_ble_eq_true rfl
  have KI4 := I4.kIn
  obtain ⟨hp3, g3, d3', tk3, os3⟩ := s3
  refine call_mw (KI4 _ _ hC) hex3 hu3 hus fun h2' t4 kk hx2 => ?_
  have W2 := I4.write (t' := tk3) (x := a) (e := a) (o := exo a D none) (by rw [ha]; exact True.intro) (.inl rfl) kk ⟨_, hx2⟩ (exo_ok hx2)
  have same : upd H' a (exo a D none) = H' := funext fun b => by
    by_cases hb : b = a
    · rw [hb, upd_same, ha]
    · exact upd_ne hb
  rw [same] at W2
  exact h _ W2
end
end Tw

set_option maxHeartbeats 2000000
namespace Tw
open PySem PySem.Spec L2
open PyProof.Rows hiding St
/-- the context of an exception's __init__ -/
def cxX (P : Program) (w : World) (K : PySem.W.Frag) (mg : Str → Option Value) (base : Heap) (N : List Str) (qual : Str) (scope : Scope) (f cda cc : Addr) (A : Around) (outer : List Env) (s : Shared) (H : Hp) (E : XK) : Cx :=
  let env := PySem.W.envX qual scope s.heap.objs.size f (.ref cda) [("__class__", cc)]
  { prog := P, w := w, K := K, mg := mg, base := base, A := A.deeper env, N := N, s_0 := s, H_0 := H, env := env, outer := outer, stack := env :: outer, ex := [], calm := true, fn := fun y => !(y == ("__class__" : Str)), pn := [],
    xe := fun e s1 => wpAny (model P w) (A.deeper env) (leaving env e) (fun _ s2 => L2.CX P w outer H s E e s2) (fun e2 s2 => L2.CX P w outer H s E e2 s2) s1 }
structure XScope (N ps : List Str) (sc : Scope) : Prop where
  kind : sc.kind = .function
  co : sc.isCoroutine = false
  gen : sc.isGenerator = false
  nd : N.Nodup
  pre : N.take ps.length = ps
  par : ∀ x ∈ ps, sc.names.lookup x = some .local
  nocell : ∀ y ∈ sc.names, y.2 ≠ .cell
  free : ∀ y ∈ sc.names, y.2 = .free → y.1 = "__class__"
  sup : sc.names.lookup ("super" : Str) = some .globalImplicit
  dcl : sc.names.lookup ("__class__" : Str) = some .free
theorem rev_zip {x : Str} {u : Value} : ∀ {ps : List Str} {us : List Value} {i : Nat}, ps.Nodup → ps[i]? = some x → us[i]? = some u → (ps.zip us).reverse.lookup x = some u
  | [], _, _, _, h, _ => by simp at h
  | _ :: _, [], _, _, _, h => by simp at h
  | p :: ps, v :: us, 0, nd, h1, h2 => by
    simp at h1 h2
    subst h1 h2
    have hn : ((ps.zip us).reverse).lookup p = none := by
      rw [List.lookup_eq_none_iff]
      intro q hq
      rw [List.mem_reverse] at hq
      have : q.1 ∈ ps := (List.of_mem_zip (show (q.1, q.2) ∈ ps.zip us from hq)).1
      have ne : p ≠ q.1 := fun z => (List.nodup_cons.mp nd).1 (z ▸ this)
      simpa using ne
    rw [List.zip_cons_cons, List.reverse_cons, List.lookup_append, hn]
    simp
  | p :: ps, v :: us, i + 1, nd, h1, h2 => by
    rw [List.zip_cons_cons, List.reverse_cons, List.lookup_append, rev_zip (List.nodup_cons.mp nd).2 (by simpa using h1) (by simpa using h2)]
    rfl
section
variable {P : Program} {w : World} {K : PySem.W.Frag} {mg : Str → Option Value} {base hp0 : Heap} {N ps : List Str} {qual name : Str} {scope : Scope} {f cda cc D : Addr} {A : Around} {outer : List Env} {s : Shared} {H : Hp} {E : XK} {us : List Value} {vs : List V}
theorem inv_startX (KC : ∃ o v, K.lookup cc = some o ∧ o.data = .cell v) (S : XScope N ps scope) (hd : A.handled = none) (e0 : Env0 P w K mg base A outer s H) (hl : vs.length = ps.length) (r : Vals vs us) (tk : Nat)
    (hns : hp0.Ns s.heap.objs.size (fun x => (ps.zip us).reverse.lookup x)) (hk : ∀ b o, s.heap.get? b = some o → hp0.get? b = some o) :
    Inv (cxX P w K mg base N qual scope f cda cc A outer s H E) [] (L2.start N vs) H { s with heap := hp0, toks := tk } := by
  have hpl : ps.length ≤ N.length := by have := congrArg List.length S.pre; rw [List.length_take] at this; omega
  obtain ⟨oc, v0, lcc, dcc⟩ := KC
  have bcc := e0.mod.kin _ _ lcc
  have Hcc := (e0.bs _ _ bcc).2
  have scc := (e0.bs _ _ bcc).1
  have one : ∀ {y : Str} {c : Addr}, ([("__class__", cc)] : List (Str × Addr)).lookup y = some c → y = "__class__" ∧ c = cc := fun {y c} z => by
    rw [List.lookup_cons] at z
    split at z
    · rename_i q
      exact ⟨eq_of_beq q, (Option.some.inj z).symm⟩
    · cases z
  have noA : ∀ b : Addr, b ∉ (cxX P w K mg base N qual scope f cda cc A outer s H E).ex := fun b z => absurd (show b ∈ ([] : List Addr) from z) (by simp)
  refine ⟨⟨e0.mod, S.kind, rfl, rfl, Nat.le_refl _, fun y z c h1 h2 => ?_, fun y hy => ?_, fun y c hf hc => ?_, fun _ => hd, Around.frames_deeper e0.frames, .inr ⟨rfl, rfl⟩, fun b z => absurd z (noA b), e0.bs, e0.bsz, fun b _ _ => noA b, fun b z => absurd z (noA b), e0.funs, e0.frf⟩,
    rfl, e0.bare, Un.kept hk, ⟨_, hns, fun i y v h1 h2 h3 => ?_⟩, fun y c hc => ?_, e0.hok.fresh (Nat.le_refl _), fun y c hc => ?_, fun p hp => absurd (show p ∈ ([] : List (Addr × Obj)) from hp) (by simp), e0.hok.kept hk, ?_⟩
  · rw [(one h1).1, (one h2).1]
  · have hy : scope.names.lookup y = some .cell ∨ scope.names.lookup y = some .free := hy
    rcases hy with hy | hy
    · exact absurd rfl (S.nocell _ (PySem.mem_of_lookup hy))
    · have := S.free _ (PySem.mem_of_lookup hy) rfl
      have this : y = "__class__" := this
      subst this
      refine ⟨cc, ?_⟩
      show List.lookup ("__class__" : Str) [(("__class__" : Str), cc)] = some cc
      exact List.lookup_cons_self
  · have hc' := (one hc).1
    subst hc'
    have hf : (!(("__class__" : Str) == ("__class__" : Str))) = true := hf
    rw [beq_self_eq_true] at hf
    cases hf
  · have hi : i < vs.length := by
      unfold L2.start at h2
      by_cases hi : i < vs.length
      · exact hi
      · rw [List.getElem?_append_right (by simpa using hi), List.getElem?_replicate] at h2
        split at h2 <;> cases h2
    have ha : vs[i]? = some v := by
      unfold L2.start at h2
      rw [List.getElem?_append_left (by simpa using hi), List.getElem?_map] at h2
      cases e : vs[i]? with
      | none => rw [e] at h2; cases h2
      | some a => rw [e] at h2; cases h2; rfl
    obtain ⟨u, hu, rv⟩ := r.get ha
    have hp : ps[i]? = some y := by
      rw [← S.pre, List.getElem?_take_of_lt (by omega)]; exact h1
    have ndP : ps.Nodup := by rw [← S.pre]; exact S.nd.sublist (List.take_sublist _ _)
    exact ⟨u, rv, .inl ⟨S.par y (List.mem_of_getElem? hp), rev_zip ndP hp hu⟩⟩
  · obtain ⟨rfl, rfl⟩ := one hc
    exact ⟨v0, _, hk _ _ scc, dcc⟩
  · obtain ⟨rfl, rfl⟩ := one hc
    exact Hcc
  · unfold L2.start
    show _ = N.length
    rw [List.length_append, List.length_map, List.length_replicate]
    omega
theorem fn_exc {params : Arguments} {dV kV doc pm ct : Value} {an : Option Addr} {rest : List Stmt} {p0 p1 p2 apos pos pos' : Pos} {m : Str} {j k : Nat} {sp : Sp} {oc : Value} {od : Option Addr} {osl : Array (Option Value)} {fd : FuncData}
    (hfd : fd = PySem.W.fnX name qual params (.Expr (.Call (.Attribute (.Call (.Name "super" p0) [] [] p1) "__init__" apos) [.Constant (.str m) j p2] [] pos) pos' :: rest) scope [("__class__", cc)] dV kV doc pm an (.ref cda) ct)
    (lk : K.lookup f = some ⟨oc, od, .func fd, osl⟩) (hcd : PySem.W.codeIn K (.ref cda) qual = true) (F : XcF P K D f fd cda cc) (T : OexC K D) (S : XScope N ps scope) (hgs : mg "super" = none) (hp0 : ps[0]? = some ("self" : Str))
    (len : ∀ vs H Q E, sp vs H Q E → vs.length = ps.length) (hat : ∀ vs H Q E, sp vs H Q E → ∃ a us, vs = .ref a :: us ∧ H a = some (exo a D none))
    (hrest : ∀ (A : Around) (outer : List Env) (s : Shared) (H : Hp) (vs : List V) (Q : VK) (E : XK), sp vs H Q E → ∃ t, PSs (cxX P w K mg base N qual scope f cda cc A outer s H E) rest t ∧ t { nx := fun _ H' => Q .non H', rt := Q } (L2.start N vs) H)
    (he : ∀ (A : Around) (outer : List Env) (s : Shared) (H : Hp) (E : XK), HeX p0 p1 p2 apos pos m j (cxX P w K mg base N qual scope f cda cc A outer s H E).env) :
    FnOk P w K mg base (L2.CX P w) (k + 1) f fd ps sp := by
  refine ⟨len, fun A outer s H args us vs Q E hr e0 hb r hsp => ?_⟩
  have hl := len _ _ _ _ hsp
  have KX : K.In s.heap := e0.mod.kin.keeps fun b o e => (e0.bs b o e).1
  have lim : s.heap.NoLimit := e0.mod.nolimit.keeps fun b o e => (e0.bs b o e).1
  obtain ⟨a, us', rfl, ha⟩ := hat _ _ _ _ hsp
  obtain ⟨cl1, cl2, cl3, hcell⟩ := F.cell
  obtain ⟨t, ht, hq⟩ := hrest A outer s H _ Q E hsp
  have F' := F
  subst hfd
  refine PySem.ks_codeAny_call_defAt (binds := ps.zip us) hr.depth (KX _ _ lk) rfl lim (PySem.W.codeRec_of KX hcd) rfl hb S.nocell (fun y hy => S.par y.1 (List.of_mem_zip (show (y.1, y.2) ∈ ps.zip us from hy)).1) (fun h0 hns hk => ?_) S.co S.gen S.kind
  have I := inv_startX (qual := qual) (f := f) (cda := cda) (cc := cc) (E := E) (N := N) (hp0 := h0) ⟨_, _, hcell, rfl⟩ S hr.hd e0 hl r (s.toks + (ps.zip us).length) hns hk
  have hi : (L2.start N (V.ref a :: us'))[0]? = some (some (.ref a)) := start_get rfl
  have hN : N[0]? = some ("self" : Str) := by
    have := S.pre
    rw [← this, List.getElem?_take] at hp0
    split at hp0
    · exact hp0
    · cases hp0
  have hs : scope.names.lookup ("self" : Str) = some .local := S.par _ (List.mem_of_getElem? hp0)
  refine PySem.ks_wpAt_execs_cons (PySem.ks_wpAt_Expr_any ?_ (hi := by
    have hkk : (cxX P w K mg base N qual scope f cda cc A outer s H E).env.scope.kind = .function := S.kind
    show interactive (cxX P w K mg base N qual scope f cda cc A outer s H E).env = false
    unfold interactive
    rw [hkk]
    rfl))
  refine super_init (X := cxX P w K mg base N qual scope f cda cc A outer s H E) F' T I hgs S.sup S.dcl hs rfl rfl (List.lookup_cons_self) hN hi ha (he A outer s H E) rfl fun s2 I2 => ?_
  refine wpAt_of_wpAny (wpAny_mono (ht.run [] s2 _ H _ I2 hq) (fun fl s3 hs3 => ?_) fun e s3 hs3 => hs3)
  have fin : ∀ {σ' : L2.St} {H' : Hp} {v : V} {u : Value}, Inv (cxX P w K mg base N qual scope f cda cc A outer s H E) [] σ' H' s3 → RelV v u → Q v H' → CE outer P w H s Q u s3 :=
    fun {σ' H' v u} J rv q => ⟨v, H', J.os, J.bare, J.base, J.hok, rv, q⟩
  cases fl with
  | ret u =>
    obtain ⟨v, σ', H', J, rv, q⟩ := hs3
    exact fin J rv q
  | next =>
    obtain ⟨σ', H', J, q⟩ := hs3
    exact fin (v := V.non) (u := Value.none) J rfl q
  | brk => exact hs3.elim fun _ z => z.elim fun _ z => z.2.elim
  | cont => exact hs3.elim fun _ z => z.elim fun _ z => z.2.elim
end
end Tw

set_option maxHeartbeats 2000000
namespace Tw
open PySem PySem.Spec L2
open PyProof.Rows hiding St
/-- what the __init__ of an own exception does: its fields, in the order of the parameters -/
def spX (C : Addr) (fs : List Str) : Sp := fun vs H Q _ => ∃ a us, vs = .ref a :: us ∧ us.length = fs.length ∧ H a = some (exo a C none) ∧
  ∀ dx H', H dx = none → dx ≠ a → H' a = some (exo a C (some dx)) → H' dx = some (exd dx (fKeys fs.reverse us.reverse)) → (∀ b, b ≠ a → b ≠ dx → H' b = H b) → Q .non H'
/-- the making of an own exception to be raised -/
def XMk (P : Program) (w : World) (K : PySem.W.Frag) (mg : Str → Option Value) (base : Heap) (G : Gc) (x : Str) (cn : String) (fs : List Str) (j : Nat) : Prop :=
  ∃ f fd ps, FnOk P w K mg base (L2.CX P w) j f fd ps (spX (G.cm cn) fs) ∧ OexC K (G.cm cn) ∧ PySem.W.findIn K (.ref (G.cm cn)) "__init__" = some (some (.ref f)) ∧ PySem.W.typeIn K (.ref f) = some (.type "function") ∧ mg x = some (.ref (G.cm cn)) ∧ Binds K fd ps [] ∧ fs.length ≤ 900
theorem RepL.rev {G : Gc} {Z : Addr → Prop} {H : Hp} : ∀ {ds : List D} {vs : List V}, RepL G Z H ds vs → RepL G Z H ds.reverse vs.reverse
  | [], vs, h => by rw [show vs = [] from h]; exact RepL.nil
  | d :: ds, vs, h => by
    obtain ⟨v, r, rfl, h1, h2⟩ := h
    rw [List.reverse_cons, List.reverse_cons]
    exact h2.rev.append (RepL.one h1)
section
variable {X : Cx} {Y : Cy} {e : Expr} {es : List Expr} {fs : DA} {pos pos' p : Pos} {x : Str} {cn : String} {ks : List Str} {j : Nat}
theorem ds_raise (M : XMk X.prog X.w X.K X.mg X.base Y.G x cn ks j) (hj : j + 1 ≤ Y.lv) (hg : Gl X x) (ha : PDA X Y (e :: es) fs) (hdb : (x == ("__debug__" : Str)) = false := by decide) (he : starEach (e :: es) X.env = (false, eval e X.env) :: starEach es X.env := by rfl)
    (hpl : (backTo pos (starEach es X.env)).any (·.1) = false := by rfl) (hca : Y.ca = true := by rfl) : PDS X Y (.Raise (some (.Call (.Name x p) (e :: es) [] pos)) none pos') (sRaise cn ks fs) := fun k => by
  obtain ⟨f, fd, ps, F, T, iC, tI, hm, hb, hk9⟩ := M
  refine impPS (ps_raise (k.calm hca) k.tk (pmk_oex (CX := L2.CX X.prog X.w) (ds := []) (dvs := []) T iC tI F ((k.room hca).mono hj) hb .nil (fun pins σ H s u s' I c => ?_) hg hm (ha k) hdb he hpl)) fun N σ H ⟨O, ρ, s, q⟩ => ?_
  · obtain ⟨a, B, H', cls, d, _, _, _, _, _, _, _, z⟩ := c
    exact z.elim
  · refine ⟨O, ρ, s, ?_⟩
    unfold sRaise at q
    cases ea : fs ρ with
    | no => rw [ea] at q; exact q
    | ex y => rw [ea] at q; exact fun c od H1 s1 xr => q O σ H1 c od (Stp.same s1) (s.same s1) xr
    | ok ds =>
      rw [ea] at q
      simp only [R.st_ok] at q
      split at q
      rotate_left
      · exact q.elim
      rename_i hlen
      intro vs H1 s1 rs
      have hvl : vs.length = ks.length := rs.length.symm.trans hlen
      refine ⟨by rw [hvl]; omega, fun a ha => ?_⟩
      rw [List.append_nil]
      refine ⟨a, vs, rfl, hvl, upd_same, fun dx H2 hd hne h1 h2 h3 => ⟨rfl, dx, _, h1, h2, ?_, ?_⟩⟩
      · rwa [upd_ne hne] at hd
      · rw [upd_ne hne] at hd
        have sm : Same H1 (upd (del H2 a) dx (.xd (fKeys ks.reverse vs.reverse))) := fun b o hb => by
          have b1 : b ≠ a := ne_of_none hb ha
          have b2 : b ≠ dx := ne_of_none hb hd
          rw [upd_ne b2, del_ne b1, h3 b b1 b2, upd_ne b1]
          exact hb
        refine q O σ _ _ _ (Stp.same (s1.trans sm)) (s.same (s1.trans sm)) ⟨rfl, dx, vs.reverse, rfl, upd_same, by rw [List.length_reverse, List.length_reverse, hvl], (rs.same sm).rev⟩
end
section
variable {X : Cx} {C a : Addr} {N : List Str}
/-- what is left to store: the names fs (each its parameter's name), gs are stored -/
theorem xst_first {f : Str} {i : Nat} {v : V} {σ : L2.St} {H : Hp} {D : Ends} (T : OexC X.K C) (hno : PySem.W.findIn X.K (.ref C) f = some none) (hs : σ[0]? = some (some (.ref a))) (hv : σ[i]? = some (some v)) (ha : H a = some (exo a C none))
    (hq : ∀ dx, H dx = none → dx ≠ a → D.nx σ (upd (upd H dx (exd dx [(f, v)])) a (exo a C (some dx)))) : tOst X.K f (tVar 0) (tVar i) D σ H :=
  ⟨v, hv, .ref a, hs, a, C, rfl, T, hno, .inl ⟨ha, hq⟩⟩
theorem xst_next {f : Str} {i : Nat} {v : V} {σ : L2.St} {H : Hp} {D : Ends} {dx : Addr} {gs : List (Str × V)} (T : OexC X.K C) (hno : PySem.W.findIn X.K (.ref C) f = some none) (hs : σ[0]? = some (some (.ref a))) (hv : σ[i]? = some (some v)) (ha : H a = some (exo a C (some dx))) (hd : H dx = some (exd dx gs))
    (hl : gs.length ≤ 900) (hq : D.nx σ (upd H dx (exd dx ((f, v) :: gs)))) : tOst X.K f (tVar 0) (tVar i) D σ H :=
  ⟨v, hv, .ref a, hs, a, C, rfl, T, hno, .inr ⟨dx, gs, ha, hd, hl, hq⟩⟩
end
end Tw

set_option maxHeartbeats 2000000
namespace Tw
open PySem PySem.Spec L2
open PyProof.Rows hiding St
section
variable {P : Program} {w : World} {K : PySem.W.Frag} {mg : Str → Option Value} {base : Heap} {qual name : Str} {scope : Scope} {f cda cc C : Addr} {params : Arguments} {dV kV doc pm ct : Value} {an : Option Addr} {p0 p1 p2 apos pos pos' q1 q2 q3 q4 : Pos} {m pr fld : Str} {j k : Nat} {oc : Value} {od : Option Addr} {osl : Array (Option Value)} {fd : FuncData}
theorem fn_exc1 (hfd : fd = PySem.W.fnX name qual params (.Expr (.Call (.Attribute (.Call (.Name "super" p0) [] [] p1) "__init__" apos) [.Constant (.str m) j p2] [] pos) pos' :: [.Assign [.Attribute (.Name "self" q1) fld q2] (.Name pr q3) q4]) scope [("__class__", cc)] dV kV doc pm an (.ref cda) ct)
    (lk : K.lookup f = some ⟨oc, od, .func fd, osl⟩) (hcd : PySem.W.codeIn K (.ref cda) qual = true) (F : XcF P K C f fd cda cc) (T : OexC K C) (S : XScope ["self", pr] ["self", pr] scope) (hgs : mg "super" = none) (hno : PySem.W.findIn K (.ref C) fld = some none)
    (he : ∀ (A : Around) (outer : List Env) (s : Shared) (H : Hp) (E : XK), HeX p0 p1 p2 apos pos m j (cxX P w K mg base ["self", pr] qual scope f cda cc A outer s H E).env)
    (d1 : (pr == ("__debug__" : Str)) = false) (d2 : (pr == ("__classdict__" : Str)) = false) : FnOk P w K mg base (L2.CX P w) (k + 1) f fd ["self", pr] (spX C [fld]) := by
  refine fn_exc (he := he) hfd lk hcd F T S hgs rfl (fun vs H Q E h => ?_) (fun vs H Q E h => ?_) (fun A outer s H vs Q E h => ?_)
  · obtain ⟨a, us, rfl, hl, _⟩ := h
    rw [List.length_cons, hl]
    rfl
  · obtain ⟨a, us, rfl, _, ha, _⟩ := h
    exact ⟨a, us, rfl, ha⟩
  · obtain ⟨a, us, rfl, hl, ha, hq⟩ := h
    obtain ⟨v, rfl⟩ : ∃ v, us = [v] := by
      match us, hl with
      | [v], _ => exact ⟨v, rfl⟩
    have hp : scope.names.lookup pr = some .local := S.par pr (List.mem_cons_of_mem _ List.mem_cons_self)
    have hs : scope.names.lookup ("self" : Str) = some .local := S.par _ List.mem_cons_self
    refine ⟨_, pss_one (ps_ost (pe_var (i := 0) rfl (Or.inl hs) (by decide) (by decide)) (pe_var (i := 1) rfl (Or.inl hp) d1 d2)), ?_⟩
    refine xst_first T hno rfl rfl ha fun dx hd hne => ?_
    refine hq dx _ hd hne upd_same ?_ fun b b1 b2 => ?_
    · rw [upd_ne hne, upd_same]
      rfl
    · rw [upd_ne b1, upd_ne b2]
end
end Tw

set_option maxHeartbeats 2000000
namespace Tw
open PySem PySem.Spec L2
open PyProof.Rows hiding St
def oexB (c : Str) : FrB := fun K => (match K.lookup (He.ga K c) with
    | some ⟨.type t, _, .cls cd, sl⟩ => decide (t = "type") && (cd.hasDict && (!cd.hasDel && (match cd.mro, sl.toList with
      | .ref C' :: bm, [_, _, _, _, some (.builtin n), _] => decide (C' = He.ga K c) && (decide (n = "ValueError.__new__") && PySem.HandSPX.refsVE bm)
      | _, _ => false)))
    | _ => false) && (decide (PySem.W.findIn K (.ref (He.ga K c)) "__setattr__" = some (some (.builtin "object.__setattr__"))) && (decide (PySem.W.subIn K (.ref (He.ga K c)) (.type "BaseException") = some true) &&
    (decide (PySem.W.typeIn K (.ref (He.ga K c)) = some (.type "type")) && PySem.W.keepIn K (.ref (He.ga K c)))))
theorem oexB_ok {K : PySem.W.Frag} {c : Str} (h : oexB c K = true) : OexC K (He.ga K c) := by
  obtain ⟨h1, h⟩ := Bool.and_eq_true_iff.mp h
  obtain ⟨h2, h⟩ := Bool.and_eq_true_iff.mp h
  obtain ⟨h3, h⟩ := Bool.and_eq_true_iff.mp h
  obtain ⟨h4, h5⟩ := Bool.and_eq_true_iff.mp h
  refine ⟨?_, of_decide_eq_true h2, of_decide_eq_true h3, of_decide_eq_true h4, h5⟩
  split at h1
  · rename_i t dd cd sl ho
    obtain ⟨k1, h1⟩ := Bool.and_eq_true_iff.mp h1
    obtain ⟨k2, h1⟩ := Bool.and_eq_true_iff.mp h1
    obtain ⟨k3, h1⟩ := Bool.and_eq_true_iff.mp h1
    split at h1
    · rename_i C' bm k0 x1 x2 x3 n x5 hm hs
      obtain ⟨k4, h1⟩ := Bool.and_eq_true_iff.mp h1
      obtain ⟨k5, k6⟩ := Bool.and_eq_true_iff.mp h1
      obtain ⟨nm, bs, mro, ns, qn, hd, sn, sub, ab, col, del⟩ := cd
      have hm : mro = .ref C' :: bm := hm
      have k2 : hd = true := k2
      have k3 : (!del) = true := k3
      have hdel : del = false := by cases del <;> first | rfl | cases k3
      have e1 : t = "type" := of_decide_eq_true k1
      have e2 : C' = He.ga K c := of_decide_eq_true k4
      have e3 : n = "ValueError.__new__" := of_decide_eq_true k5
      have hsl : sl = #[k0, x1, x2, x3, some (.builtin n), x5] := by
        obtain ⟨l⟩ := sl
        exact congrArg Array.mk hs
      rw [e2] at hm
      subst hm k2 hdel e1 e3 hsl
      exact ⟨nm, qn, ns, bs, bm, sn, sub, ab, col, dd, k0, x1, x2, x3, x5, ho, k6⟩
    · cases h1
  · cases h1
/-- the init's function, its cell, its code -/
def xfd (c : Str) (K : PySem.W.Frag) : Option FuncData := match K.lookup (mAd c "__init__" K) with
  | some ⟨_, _, .func fd, _⟩ => some fd
  | _ => none
abbrev FnX : Type := Option (Str × Str × Arguments × FuncBody × Scope × Addr × Addr)
structure DefX where
  cls : Str
  name : Str
  qual : Str
  params : Arguments
  body : List Stmt
  scope : Scope
def DefX.obs (d : DefX) (K : PySem.W.Frag) : FnX := (xfd d.cls K).map fun fd => (fd.name, fd.qualname, fd.params, fd.body, fd.scope, fd.globals, fd.builtins)
def DefX.val (d : DefX) : FnX := some (d.name, d.qual, d.params, .stmts d.body, d.scope, mainGlobals, builtinsNs)
/-- all but the rows of the text -/
def xcB (P : Program) (c : Str) (qual : Str) : FrB := fun K => (match xfd c K with
    | some fd => (match fd.closure, fd.code, fd.defaults with
      | [(x, cc)], .ref cda, .none => decide (x = ("__class__" : Str)) && (PySem.W.codeIn K (.ref cda) qual && ((match K.lookup cc with
          | some ⟨_, _, .cell (some (.ref D)), _⟩ => decide (D = He.ga K c)
          | _ => false) && (match K.lookup cda with
          | some ⟨_, _, .fields vs, _⟩ => (match (vs[2]? : Option Value) with
            | some (Value.str file _) => ((P.main.file : Str) == file)
            | _ => false)
          | _ => false)))
      | _, _, _ => false)
    | none => false) && ((PySem.W.clsIn K (He.ga K c)).isSome && (decide (PySem.W.mroIn K (He.ga K c) (.ref (He.ga K c)) = some true) && (decide (PySem.W.nsIn K cStatics "thirdparty.any" = some none) &&
    (decide (PySem.W.ks_superIn K (He.ga K c) (He.ga K c) "__init__" = some (some (.builtin "ValueError.__init__"))) && (decide (PySem.W.subIn K (.ref (He.ga K c)) (.type "ValueError") = some true) &&
    (decide (PySem.W.findIn K (.ref (He.ga K c)) "__init__" = some (some (.ref (mAd c "__init__" K)))) && decide (PySem.W.typeIn K (.ref (mAd c "__init__" K)) = some (.type "function"))))))))
/-- .. and the field f is no attribute of the class -/
def xnB (c f : Str) : FrB := fun K => decide (PySem.W.findIn K (.ref (He.ga K c)) f = some none)
structure XcA (P : Program) (K : PySem.W.Frag) (d : DefX) : Prop where
  ex : ∃ (fd : FuncData) (cc cda : Addr) (kV doc pm ct : Value) (an : Option Addr) (oc : Value) (od : Option Addr) (osl : Array (Option Value)),
    fd = PySem.W.fnX d.name d.qual d.params d.body d.scope [("__class__", cc)] .none kV doc pm an (.ref cda) ct ∧ K.lookup (mAd d.cls "__init__" K) = some ⟨oc, od, .func fd, osl⟩ ∧ PySem.W.codeIn K (.ref cda) d.qual = true ∧
      ((∃ ar, (d.params.posonlyargs ++ d.params.args).head? = some ar ∧ ar.arg = "self") → (P.main.scope.names.lookup ("super" : Str)).isSome = false → XcF P K (He.ga K d.cls) (mAd d.cls "__init__" K) fd cda cc)
  ini : PySem.W.findIn K (.ref (He.ga K d.cls)) "__init__" = some (some (.ref (mAd d.cls "__init__" K)))
  typ : PySem.W.typeIn K (.ref (mAd d.cls "__init__" K)) = some (.type "function")
theorem xcB_ok {P : Program} {K : PySem.W.Frag} {d : DefX} (h : xcB P d.cls d.qual K = true) (e : d.obs K = d.val) : XcA P K d := by
  obtain ⟨h1, h⟩ := Bool.and_eq_true_iff.mp h
  obtain ⟨h2, h⟩ := Bool.and_eq_true_iff.mp h
  obtain ⟨h3, h⟩ := Bool.and_eq_true_iff.mp h
  obtain ⟨h4, h⟩ := Bool.and_eq_true_iff.mp h
  obtain ⟨h5, h⟩ := Bool.and_eq_true_iff.mp h
  obtain ⟨h6, h⟩ := Bool.and_eq_true_iff.mp h
  obtain ⟨h7, h8⟩ := Bool.and_eq_true_iff.mp h
  refine ⟨?_, of_decide_eq_true h7, of_decide_eq_true h8⟩
  unfold DefX.obs at e
  split at h1
  rotate_left
  · cases h1
  rename_i fd hx
  rw [hx] at e
  split at h1
  rotate_left
  · cases h1
  rename_i x cc cda hcl hco hdf
  obtain ⟨k1, h1⟩ := Bool.and_eq_true_iff.mp h1
  obtain ⟨k2, h1⟩ := Bool.and_eq_true_iff.mp h1
  obtain ⟨k3, k4⟩ := Bool.and_eq_true_iff.mp h1
  have ex : x = ("__class__" : Str) := of_decide_eq_true k1
  subst ex
  unfold xfd at hx
  split at hx
  rotate_left
  · cases hx
  rename_i oc od fd' osl lk
  cases hx
  obtain ⟨n1, n2, n3, n4, n5, n6, n7, n8, n9, n10, n11, n12, n13, n14, n15⟩ := fd
  have e2 : (some (n1, n2, n3, n4, n5, n6, n15) : FnX) = some (d.name, d.qual, d.params, .stmts d.body, d.scope, mainGlobals, builtinsNs) := e
  simp only [Option.some.injEq, Prod.mk.injEq] at e2
  obtain ⟨g1, g2, g3, g4, g5, g6, g7⟩ := e2
  have hcl : n7 = [(("__class__" : Str), cc)] := hcl
  have hco : n13 = .ref cda := hco
  have hdf : n8 = .none := hdf
  subst g1 g2 g3 g4 g5 g6 g7 hcl hco hdf
  refine ⟨_, cc, cda, n9, n10, n11, n14, n12, oc, od, osl, rfl, lk, k2, fun hs ht => ?_⟩
  refine ⟨⟨_, _, _, lk⟩, hs, ?_, ?_, Option.isSome_iff_exists.mp h2, of_decide_eq_true h3, of_decide_eq_true h4, of_decide_eq_true h5, of_decide_eq_true h6, ht⟩
  · split at k4
    · rename_i a1 a2 vs a3 l2
      split at k4
      · rename_i file tf l3
        exact ⟨_, _, vs, _, file, tf, l2, l3, k4⟩
      · cases k4
    · cases k4
  · split at k3
    · rename_i a1 a2 D a3 l2
      have := of_decide_eq_true k3
      subst this
      exact ⟨_, _, _, l2⟩
    · cases k3
end Tw

set_option maxHeartbeats 2000000
namespace Tw
open PySem PySem.Spec L2
open PyProof.Rows hiding St
abbrev AlX : Type := He.AlD × List FnX
def obsX (fb : List FrB) (fa : List He.Fa) (fn : List He5.DefA) (fx : List DefX) (K : PySem.W.Frag) : AlX := (obsT fb fa fn K, fx.map fun d => d.obs K)
def valX (fn : List He5.DefA) (fx : List DefX) : AlX := (valT fn, fx.map DefX.val)
def SaysX (fb : List FrB) (fa : List He.Fa) (fn : List He5.DefA) (fx : List DefX) (K : PySem.W.Frag) : Prop := obsX fb fa fn fx K = valX fn fx
def obsXG (n : Nat) (fb : List FrB) (fa : List He.Fa) (fn : List He5.DefA) (fx : List DefX) (g : Addr → Option Obj) : AlX := obsX fb fa fn fx (He.frG g (He5.asA g n))
def hookX (n : Nat) (fb : List FrB) (fa : List He.Fa) (fn : List He5.DefA) (fx : List DefX) : PySem.W.Hook where
  α := AlX
  obs := fun s => obsXG n fb fa fn fx s.heap.get?
  val := fun _ => valX fn fx
  says := fun _ hp => ∃ K : PySem.W.Frag, K.In hp ∧ SaysX fb fa fn fx K
  of := fun _ _ z => ⟨_, He.frG_in, z⟩
  keeps := fun _ _ _ ⟨K, kin, z⟩ up => ⟨K, PySem.W.Frag.In.keeps kin up, z⟩
theorem obsXG_eq {n : Nat} {fb : List FrB} {fa : List He.Fa} {fn : List He5.DefA} {fx : List DefX} {g : Addr → Option Obj} {s : Shared} (h : ∀ a, g a = s.heap.get? a) : obsXG n fb fa fn fx g = (hookX n fb fa fn fx).obs s := by
  obtain rfl : g = s.heap.get? := funext h
  rfl
section
variable {fb : List FrB} {fa : List He.Fa} {fn : List He5.DefA} {fx : List DefX} {K : PySem.W.Frag}
theorem SaysX.base (c : SaysX fb fa fn fx K) : SaysT fb fa fn K := congrArg Prod.fst c
theorem SaysX.init (c : SaysX fb fa fn fx K) (i : Nat) {d : DefX} (h : fx[i]? = some d := by rfl) : d.obs K = d.val := by
  have z : fx.map (fun d => d.obs K) = fx.map DefX.val := congrArg Prod.snd c
  have z1 : (fx.map fun d => d.obs K)[i]? = (fx.map DefX.val)[i]? := by rw [z]
  rw [List.getElem?_map, List.getElem?_map, h] at z1
  exact Option.some.inj z1
end
section
variable {P : Program} {w : World} {K : PySem.W.Frag} {mg : Str → Option Value} {base : Heap}
/-- an own exception with one field -/
theorem xmk1 {d : DefX} {x pr fld : Str} {cn : String} {G : Gc} {p0 p1 p2 apos pos pos' q1 q2 q3 q4 : Pos} {m : Str} {j k : Nat} (X : XcA P K d) (T : OexC K (He.ga K d.cls)) (hG : G.cm cn = He.ga K d.cls) (hmx : mg x = some (.ref (He.ga K d.cls)))
    (hb : d.body = .Expr (.Call (.Attribute (.Call (.Name "super" p0) [] [] p1) "__init__" apos) [.Constant (.str m) j p2] [] pos) pos' :: [.Assign [.Attribute (.Name "self" q1) fld q2] (.Name pr q3) q4]) (S : XScope ["self", pr] ["self", pr] d.scope)
    (hs : ∃ ar, (d.params.posonlyargs ++ d.params.args).head? = some ar ∧ ar.arg = "self") (ht : (P.main.scope.names.lookup ("super" : Str)).isSome = false) (hgs : mg "super" = none) (hno : PySem.W.findIn K (.ref (He.ga K d.cls)) fld = some none)
    (hbd : ∀ (kV doc pm ct : Value) (an : Option Addr) (cc cda : Addr) (us : List Value), us.length = 2 → bindArgs (PySem.W.fnX d.name d.qual d.params d.body d.scope [("__class__", cc)] .none kV doc pm an (.ref cda) ct) ⟨us, []⟩ = pure ((["self", pr] : List Str).zip us))
    (he : ∀ (f cc cda : Addr) (A : Around) (outer : List Env) (s : Shared) (H : Hp) (E : XK), HeX p0 p1 p2 apos pos m j (cxX P w K mg base ["self", pr] d.qual d.scope f cda cc A outer s H E).env)
    (d1 : (pr == ("__debug__" : Str)) = false) (d2 : (pr == ("__classdict__" : Str)) = false) : XMk P w K mg base G x cn [fld] (k + 1) := by
  obtain ⟨fd, cc, cda, kV, doc, pm, ct, an, oc, od, osl, hfd, lk, hcd, hF⟩ := X.ex
  have F := hF hs ht
  have hfd' := hfd
  rw [hb] at hfd'
  unfold XMk
  rw [hG]
  refine ⟨_, fd, ["self", pr], fn_exc1 hfd' lk hcd F T S hgs hno (he _ cc cda) d1 d2, T, X.ini, X.typ, hmx, ?_, Nat.le_of_ble_eq_true rfl⟩
  subst hfd
  exact L2.Binds.all fun us hl => hbd kV doc pm ct an cc cda us hl
end
end Tw

set_option maxHeartbeats 2000000
namespace Tw
open PySem PySem.Spec L2
open PyProof.Rows hiding St
section
variable {P : Program} {w : World} {K : PySem.W.Frag} {mg : Str → Option Value} {base : Heap} {qual name : Str} {scope : Scope} {f cda cc C : Addr} {params : Arguments} {dV kV doc pm ct : Value} {an : Option Addr} {p0 p1 p2 apos pos pos' q1 q2 q3 q4 r1 r2 r3 r4 s1 s2 s3 s4 : Pos} {m pa pb pc fa fb fc : Str} {j k : Nat} {oc : Value} {od : Option Addr} {osl : Array (Option Value)} {fd : FuncData}
end
end Tw

set_option maxHeartbeats 2000000
namespace Tw
open PySem PySem.Spec L2
open PyProof.Rows hiding St
section
variable {X : Cx} {CX : CXT} {k : Nat} {f C : Addr} {fd : FuncData} {ps : List Str} {sp : Sp} {A1 : Around} {pins : List (Addr × Obj)} {σ : L2.St} {H : Hp} {s : Shared}
theorem run_atC {E : L2.St → XK} {Q : VK} {us : List Value} {vs : List V} (hA : Room k A1) (hf : A1.frames = X.A.frames) (F : FnOk X.prog X.w X.K X.mg X.base CX k f fd ps sp) (hb : Binds X.K fd ps []) (hx : PassesAt CX X σ (E σ)) (I : Inv X pins σ H s) (r : Vals vs us)
    (h : sp vs H Q (E σ)) : codeAny (model X.prog X.w) A1 (.call (.ref f) ⟨us, []⟩) (fun r s' => match r with | .ok (.ret v) => EP X pins σ Q v s' | .ok _ => False | .error e => X.xe e s') s := by
  have e := I.env0
  have e1 : Env0 X.prog X.w X.K X.mg X.base A1 X.stack s H := ⟨hf.trans e.frames, e.mod, e.bs, e.bsz, e.funs, e.frf, e.hok, e.bare⟩
  have hl : (us ++ []).length = ps.length := by
    rw [List.append_nil, ← r.length]
    exact F.len _ _ _ _ h
  have hb' := hb s us I.kIn hl
  rw [List.append_nil] at hb'
  refine codeAny_mono (F.run A1 X.stack s H ⟨us, []⟩ us vs Q (E σ) hA e1 hb' r h) fun q s' hq => ?_
  cases q with
  | error z => exact hx pins H s z s' I hq
  | ok fl =>
    cases fl with
    | ret u => exact I.after hq
    | next => exact hq.elim
    | brk => exact hq.elim
    | cont => exact hq.elim
theorem run_at {E : L2.St → XK} {Q : VK} {us : List Value} {vs : List V} (hA : Room k A1) (hf : A1.frames = X.A.frames) (F : FnOk X.prog X.w X.K X.mg X.base CX k f fd ps sp) (hb : Binds X.K fd ps []) (hx : PassesAt CX X σ (E σ)) (I : Inv X pins σ H s) (r : Vals vs us)
    (h : sp vs H Q (E σ)) : wpAny (model X.prog X.w) A1 (call (.ref f) us) (EP X pins σ Q) X.xe s := wpAny_call (run_atC hA hf F hb hx I r h)
end
theorem relref (p : Addr) : L2.RelV (.ref p) (.ref p) := rfl
section
variable {X : Cx} {CX : CXT} {k : Nat} {f C : Addr} {fd : FuncData} {ps : List Str} {sp : Sp} {E : L2.St → XK} {a b : Expr} {ta tb : TE} {pos : Pos}
/-- an operand's instance in the raw heap -/
theorem inst_of {pins : List (Addr × Obj)} {σ : L2.St} {H : Hp} {s : Shared} {p dx : Addr} {fs : List (Str × V)} (I : Inv X pins σ H s) (e : H p = some (.ins C dx fs)) : ∃ od m, PySem.W.InstAt s.heap p (PySem.W.instObj C dx) C (some od) ∧ Fr X.base X.env.locals s.heap m := by
  obtain ⟨mA, J, _⟩ := ins_get I.hok e
  obtain ⟨od, J, _⟩ := J.look
  obtain ⟨m, F⟩ := I.fr
  exact ⟨od, m, J, F⟩
def rOwn (C : Addr) (sp : Sp) (E : XK) : V → V → Hp → VK → Prop := fun x y H Q => ∃ p dx fs, x = .ref p ∧ H p = some (.ins C dx fs) ∧ sp [x, y] H Q E
def tIxO (C : Addr) (sp : Sp) (E : L2.St → XK) (ta tb : TE) : TE := fun σ H Q => ta σ H fun x H1 => tb σ H1 fun y H2 => rOwn C sp (E σ) x y H2 Q
theorem pe_ixO (hm : Meth X.K C "__getitem__" f) (hf : PySem.W.fnIn X.K f = true) (F : FnOk X.prog X.w X.K X.mg X.base CX k f fd ps sp) (hr : Room (k + 1) X.A) (hb : Binds X.K fd ps []) (hx : ∀ σ, PassesAt CX X σ (E σ)) (ha : PE X a ta) (hb2 : PE X b tb)
    (hs : ∀ o i, subscripted b true o i = runValue (.builtin "lifetime.subscript" ⟨[o, i], []⟩) := by intros; with_unfolding_all rfl) : PE X (.Subscript a b pos) (tIxO C sp E ta tb) := by
  refine ⟨fun pins s σ H Q I h => ?_⟩
  refine Subscript_ (binT ha hb2 I h fun v u s2 x y H2 I2 rx ry q => ?_)
  obtain ⟨p, dx, fs, rfl, e, q⟩ := q
  obtain rfl : v = Value.ref p := rx
  obtain ⟨od, m, J, Fm⟩ := inst_of I2 e
  refine PySem.W.sub_K Fm I2.ok.mod.kin J hm.at_ hf hm.fn ?_ (hs _ _)
  exact run_at (E := E) hr.in1 rfl F hb (hx σ) I2 (.cons (relref p) (.cons ry .nil)) q
/-- x in o -/
def tInO (C : Addr) (sp : Sp) (E : L2.St → XK) (n : Bool) (ta tb : TE) : TE := fun σ H Q => ta σ H fun x H1 => tb σ H1 fun y H2 => rOwn C sp (E σ) y x H2 fun v H3 => ∃ k, v = .bl k ∧ Q (.bl (if n then !k else k)) H3
theorem pc_notinO (hm : Meth X.K C "__contains__" f) (F : FnOk X.prog X.w X.K X.mg X.base CX k f fd ps sp) (hr : Room k X.A) (hb : Binds X.K fd ps []) (hx : ∀ σ, PassesAt CX X σ (E σ)) (ha : PE X a ta) (hb2 : PE X b tb) : PC X .NotIn a b (tInO C sp E true ta tb) := by
  refine ⟨fun pins s σ H Q I h => ?_⟩
  refine binT ha hb2 I h fun v u s2 x y H2 I2 rx ry q => ?_
  obtain ⟨p, dx, fs, rfl, e, q⟩ := q
  obtain rfl : u = Value.ref p := ry
  obtain ⟨od, m, J, Fm⟩ := inst_of I2 e
  refine PySem.W.notIn_K Fm I2.ok.mod.kin J hm.at_ hm.fn ?_
  refine thn (run_at (E := E) hr rfl F hb (hx σ) I2 (.cons (relref p) (.cons rx .nil)) q) fun z s3 hz => ?_
  obtain ⟨v3, H3, I3, r3, k3, e3, q3⟩ := hz
  subst e3
  cases r3
  exact wpAny_truthy_bool ⟨.bl (!k3), H3, I3, rfl, q3⟩
end
end Tw

set_option maxHeartbeats 2000000
namespace Tw
open PySem PySem.Spec L2
open PyProof.Rows hiding St
section
variable {CX : CXT} {P : Program} {w : World} {K : PySem.W.Frag} {mg : Str → Option Value} {base : Heap} {x qual : Str} {params : Arguments} {body : List Stmt} {scope : Scope} {dvs : List V} {kws : List (Str × V)} {f : Addr} {fd : FuncData} {N ps : List Str} {k : Nat}
/-- a def's run, told with the heap's size at its start -/
theorem run_sized {sp : Nat → Sp} (F : FunD K x qual params body scope dvs kws f fd) (S : FnScope N ps scope) {A : Around} {outer : List Env} {s : Shared} {H : Hp} {args : Args} {us : List Value} {vs : List V} {Q : VK} {E : XK} (hr : Room (k + 1) A) (ee : Env0 P w K mg base A outer s H)
    (hb : BindsTo s fd args (ps.zip us)) (rv : Vals vs us) (hl : vs.length = ps.length)
    (hbody : ∀ cdv : Value, Room k (A.deeper (envOfC qual scope s.heap.objs.size f cdv)) → ∃ t, PSs (cxOf CX P w K mg base N qual scope f cdv A outer s H E) body t ∧ t { nx := fun _ H' => Q .non H', rt := Q } (L2.start N vs) H) :
    codeAny (model P w) A (.call (.ref f) args) (CR CX outer P w H s Q E) s := by
  obtain ⟨oc, od, dV, kV, doc, pm, an, cdv, ct, osl, efd, lk, hcd, _, _⟩ := F.ex
  subst efd
  have inK : K.In s.heap := ee.mod.kin.keeps fun p u e => (ee.bs p u e).1
  have nol : s.heap.NoLimit := ee.mod.nolimit.keeps fun p u e => (ee.bs p u e).1
  have kinds : ∀ z ∈ ps.zip us, scope.names.lookup z.1 = some .local ∨ (scope.names.lookup z.1 = some .cell ∧ ((cellsFrom (s.heap.objs.size + 1) scope.names []).lookup z.1).isSome = true) := by
    intro z hz
    rcases S.par z.1 (List.of_mem_zip (show (z.1, z.2) ∈ ps.zip us from hz)).1 with k1 | k1
    · exact Or.inl k1
    · exact Or.inr ⟨k1, PySem.W.cellsFrom_some _ _ _ (Or.inl k1)⟩
  refine codeAny_call_function hr.depth (inK _ _ lk) rfl S.co S.gen rfl (PySem.W.codeRec_of inK hcd) (hb _ _ _ _ (wpAny_newFunctionEnv_cells S.kind kinds fun env1 en s1 started => ?_))
  cases en
  refine ⟨nol.keeps started.toInCall.keep, codeAny_func ?_⟩
  obtain ⟨t, td, tq⟩ := hbody cdv (hr.deeper _)
  have J0 : L2.Inv (cxOf CX P w K mg base N qual scope f cdv A outer s H E) [] (L2.start N vs) H s1 :=
    inv_start S hr.hd ee hl rv started
  have run := td.run [] s1 (L2.start N vs) H { nx := fun _ H' => Q .non H', rt := Q } J0 tq
  refine wpAny_mono run (fun flow s2 h2 => ?_) fun z s2 h2 => h2
  cases flow with
  | next => exact h2.elim fun σ2 h2 => h2.elim fun H2 ⟨J, q2⟩ => ⟨V.non, H2, J.os, J.bare, J.base, J.hok, rfl, q2⟩
  | ret u2 => exact h2.elim fun v2 h2 => h2.elim fun σ2 h2 => h2.elim fun H2 ⟨J, r2, q2⟩ => ⟨v2, H2, J.os, J.bare, J.base, J.hok, r2, q2⟩
  | brk => exact (h2.elim fun _ h2 => h2.elim fun _ h2 => h2.2).elim
  | cont => exact (h2.elim fun _ h2 => h2.elim fun _ h2 => h2.2).elim
end
open PySem.W in
theorem own_it {M : Model} {A : Around} {Q : Value → Shared → Prop} {E : Value → Shared → Prop} {s : Shared} {it l : Addr} {i : Nat} (hx : s.heap.get? it = some (GNX.itObj l i)) (h : Q (.ref it) s) : OwitIt M A Q E (.ref it) s := by
  have hT : s.TypeIs (.ref it) "list_iterator" := ⟨_, hx, rfl⟩
  unfold OwitIt
  exact wpAny_specialOf (name := Str.ofString "__next__") hT slot_listiter_next.lookup h
section
variable {X : Cx} {Y : Cy} {C f : Addr} {fd : FuncData} {N ps : List Str} {x qual m : Str} {params : Arguments} {body : List Stmt} {scope : Scope} {a tg : Expr} {ta : TE} {k : Nat} {fl : Str}
def iOwnE (C : Addr) (fl : Str) (te : TE) (K : PySem.W.Frag) : TI := fun σ H R => te σ H fun v H1 => ∃ p dx fs l zs, v = .ref p ∧ H1 p = some (.ins C dx fs) ∧ fs.lookup fl = some (.ref l) ∧ H1 l = some (.lst zs) ∧ R (Itl K l) H1
/-- the body of such an __iter__, once for all contexts -/
def ItBody (P : Program) (w : World) (K : PySem.W.Frag) (mg : Str → Option Value) (base : Heap) (C f : Addr) (N : List Str) (qual : Str) (scope : Scope) (body : List Stmt) (fl : Str) : Prop :=
  ∀ (cdv : Value) (A : Around) (outer : List Env) (s : Shared) (H : Hp) (E : XK) (p dx : Addr) (fs : List (Str × V)) (l : Addr) (zs : List V) (Q : VK), H p = some (.ins C dx fs) → fs.lookup fl = some (.ref l) → H l = some (.lst zs) →
    (∀ it, H it = Option.none → s.heap.objs.size ≤ it → Q (.ref it) (upd H it (ItO l it 0))) →
    ∃ t, PSs (cxOf (L2.CX P w) P w K mg base N qual scope f cdv A outer s H E) body t ∧ t { nx := fun _ H' => Q .non H', rt := Q } (L2.start N [.ref p]) H
theorem pi_ownI (hm : Meth X.K C "__iter__" f) (F : FunD X.K x qual params body scope [] [] f fd) (S : FnScope N ps scope) (hps : ps.length = 1) (hb : Binds X.K fd ps []) (hbody : ItBody X.prog X.w X.K X.mg X.base C f N qual scope body fl) (hr : Room 1 X.A)
    (tk : ∃ W, Takes X W) (ha : PE X a ta) : PI X tg a (iOwnE C fl ta X.K) := by
  refine ⟨fun pins s σ H R I h => ?_⟩
  refine thn (ha.run pins s σ H _ I h) fun v s1 hh => ?_
  obtain ⟨x1, H1, I1, r1, p, dx, fs, l, zs, rfl, e, hl, hz, q⟩ := hh
  obtain rfl : v = Value.ref p := r1
  obtain ⟨od, m, J, Fm⟩ := inst_of I1 e
  refine PySem.W.owit_iter Fm I1.ok.mod.kin J hm.at_ hm.fn ?_
  have hl1 : ([Value.ref p] ++ []).length = ps.length := by rw [hps]; rfl
  have hb' := hb s1 [.ref p] I1.kIn hl1
  obtain ⟨W, tk⟩ := tk
  refine wpAny_call (codeAny_mono (run_sized (CX := L2.CX X.prog X.w) (E := fun c d H' => W c d σ H') (k := 0) (Q := fun v' H' => ∃ it, v' = .ref it ∧ H1 it = Option.none ∧ s1.heap.objs.size ≤ it ∧ H' = upd H1 it (ItO l it 0)) (sp := fun _ _ _ _ _ => True) F S hr I1.env0 hb' (.cons (relref p) .nil) hps.symm fun cdv hr' =>
    hbody cdv X.A X.stack s1 H1 (fun c d H' => W c d σ H') p dx fs l zs (fun v' H' => ∃ it, v' = .ref it ∧ H1 it = Option.none ∧ s1.heap.objs.size ≤ it ∧ H' = upd H1 it (ItO l it 0)) e hl hz fun it h1 h2 => ⟨it, rfl, h1, h2, rfl⟩) fun r s2 hq => ?_)
  cases r with
  | error z => exact passAt tk σ pins H1 s1 z s2 I1 hq
  | ok fw =>
    cases fw with
    | next => exact hq.elim
    | brk => exact hq.elim
    | cont => exact hq.elim
    | ret u =>
      obtain ⟨v2, H2, I2, r2, it, rfl, hit, hsz, rfl⟩ := I1.after hq
      obtain rfl : u = Value.ref it := r2
      have hi : upd H1 it (ItO l it 0) it = some (ItO l it 0) := upd_same
      have eo := itO_get I2 hi
      refine own_it eo ?_
      have hi' := hi
      unfold ItO at hi'
      have hn : X.s_0.heap.objs.size ≤ it := Nat.le_trans I1.sz hsz
      have I3 := ItX.inv_drop I2 hi'
      have fp := ItX.inv_fp I2 hi hn
      have ed : ItX.dropH (upd H1 it (ItO l it 0)) it = H1 := ItX.dropH_upd hit
      unfold ItO at ed
      have I3' : L2.Inv X pins σ H1 s2 := by rw [← ed]; exact I3
      have fp' : FpOk X pins H1 it := by rw [← ed]; exact fp
      exact ⟨it, [it], _, _, H1, rfl, I3', turn_list l it, ⟨_, eo, rfl, rfl⟩, fun b hb => by
        obtain rfl : b = it := by simpa using hb
        exact fp', q⟩
end
end Tw

set_option maxHeartbeats 2000000
namespace Tw
open PySem PySem.Spec L2
open PyProof.Rows hiding St
/-- a method by a special name -/
def Dn (P : Program) (w : World) (K : PySem.W.Frag) (mg : Str → Option Value) (base : Heap) (G : Gc) (c : String) (m : Str) (den : List D → R D) (j : Nat) : Prop :=
  ∃ f fd ps, FnOk P w K mg base (L2.CX P w) j f fd ps (dsp G den) ∧ Meth K (G.cm c) m f ∧ Binds K fd ps [] ∧ PySem.W.fnIn K f = true
theorem fnIn_of {K : PySem.W.Frag} {x qual : Str} {params : Arguments} {body : List Stmt} {scope : Scope} {dvs : List V} {kws : List (Str × V)} {f : Addr} {fd : FuncData} (F : FunD K x qual params body scope dvs kws f fd) : PySem.W.fnIn K f = true := by
  obtain ⟨oc, od, dV, kV, doc, pm, an, cdv, ct, osl, rfl, lk, _⟩ := F.ex
  unfold PySem.W.fnIn
  rw [lk]
section
variable {X : Cx} {Y : Cy} {a b o e : Expr} {fa fb fo : DE} {pos : Pos} {c : String} {den : List D → R D} {j : Nat}
/-- two operands, then something -/
theorem bin_then {O : Addr → Prop} {ρ : DEnv} {σ : L2.St} {H : Hp} {Q : VK} {k : D → D → R D} {W : V → V → Hp → Prop} (s : SR Y O ρ σ H) (q : EPost Y O σ H Q ((fa ρ).bind fun x => (fb ρ).bind fun y => k x y))
    (h : ∀ dx dy x y H2, Same H H2 → Rep Y.G (Zo Y.Ze O) H2 dx x → Rep Y.G (Zo Y.Ze O) H2 dy y → SR Y O ρ σ H2 → EPost Y O σ H2 Q (k dx dy) → W x y H2) : tD Y fa σ H fun x H1 => tD Y fb σ H1 fun y H2 => W x y H2 := by
  refine ⟨O, ρ, s, ?_⟩
  cases ea : fa ρ with
  | ex z => rw [ea] at q; exact q
  | no => rw [ea] at q; exact q
  | ok dx =>
    rw [ea] at q
    simp only [R.bind_ok] at q
    intro x H1 s1 rx
    refine ⟨O, ρ, s.same s1, ?_⟩
    cases eb : fb ρ with
    | ex z => rw [eb] at q; exact ex_fwd s1 q
    | no => rw [eb] at q; exact q
    | ok dy =>
      rw [eb] at q
      simp only [R.bind_ok] at q
      intro y H2 s2 ry
      exact h dx dy x y H2 (s1.trans s2) (rx.same s2) ry (s.same (s1.trans s2)) (EPost.fwd (s1.trans s2) q)
theorem pd_ixO (M : Dn X.prog X.w X.K X.mg X.base Y.G c "__getitem__" den j) (hj : j + 1 ≤ Y.lv) (ha : PD X Y a fa) (hb : PD X Y b fb)
    (hs : ∀ o i, subscripted b true o i = runValue (.builtin "lifetime.subscript" ⟨[o, i], []⟩) := by intros; with_unfolding_all rfl) (hca : Y.ca = true := by rfl) : PD X Y (.Subscript a b pos) (eIxO c den fa fb) := fun k => by
  obtain ⟨f, fd, ps, F, hm, hbn, hf⟩ := M
  refine impPE (pe_ixO (E := WE Y.E) hm hf F ((k.room hca).mono hj) hbn (fun σ => passAt k.tk σ) (ha k) (hb k) hs) fun σ H Q ⟨O, ρ, s, q⟩ => ?_
  refine bin_then s q fun dx dy x y H2 s2 rx ry s' q2 => ?_
  cases dx with
  | obj c' ks vs =>
    simp only at q2
    split at q2
    · rename_i hc
      subst hc
      obtain ⟨p, dp, us, rfl, n, hp, _, _⟩ := id rx
      exact ⟨p, dp, _, rfl, hp, dsp_of s' (RepL.cons rx (RepL.one ry)) q2⟩
    · exact q2.elim
  | _ => exact q2.elim
theorem bool_of {O : Addr → Prop} {σ : L2.St} {H : Hp} {Q : VK} {r : R D} {g : Bool → Bool} (q : EPost Y O σ H Q (r.bind fun z => match z with | .bl b => .ok (.bl (g b)) | _ => .no)) : EPost Y O σ H (fun v H3 => ∃ k, v = .bl k ∧ Q (.bl (g k)) H3) r := by
  cases r with
  | ex z => exact q
  | no => exact q
  | ok d =>
    cases d with
    | bl b => exact fun v H' s rv => ⟨b, rv, q _ H' s rfl⟩
    | _ => exact q.elim
theorem in_imp {n : Bool} {den' : DE} (hd : den' = if n then eRMn c den fa fo else eRM c den fa fo) (σ : L2.St) (H : Hp) (Q : VK) (h : tD Y den' σ H Q) : tInO (Y.G.cm c) (dsp Y.G den) (WE Y.E) n (tD Y fa) (tD Y fo) σ H Q := by
  obtain ⟨O, ρ, s, q⟩ := h
  subst hd
  cases n with
  | true =>
    refine bin_then (k := fun x y => match y with
      | .obj c' ks vs => if c' = c then (den [.obj c' ks vs, x]).bind fun r => match r with | .bl b => .ok (.bl (!b)) | _ => .no else .no
      | _ => .no) s q fun dx dy x y H2 s2 rx ry s' q2 => ?_
    cases dy with
    | obj c' ks vs =>
      simp only at q2
      split at q2
      · rename_i hc
        subst hc
        obtain ⟨p, dp, us, rfl, n, hp, _, _⟩ := id ry
        exact ⟨p, dp, _, rfl, hp, dsp_of s' (RepL.cons ry (RepL.one rx)) (bool_of q2)⟩
      · exact q2.elim
    | _ => exact q2.elim
  | false =>
    refine bin_then (k := fun x y => match y with
      | .obj c' ks vs => if c' = c then (den [.obj c' ks vs, x]).bind fun r => match r with | .bl b => .ok (.bl b) | _ => .no else .no
      | _ => .no) s q fun dx dy x y H2 s2 rx ry s' q2 => ?_
    cases dy with
    | obj c' ks vs =>
      simp only at q2
      split at q2
      · rename_i hc
        subst hc
        obtain ⟨p, dp, us, rfl, n, hp, _, _⟩ := id ry
        exact ⟨p, dp, _, rfl, hp, dsp_of s' (RepL.cons ry (RepL.one rx)) (bool_of (g := id) q2)⟩
      · exact q2.elim
    | _ => exact q2.elim
theorem pt_notinO (M : Dn X.prog X.w X.K X.mg X.base Y.G c "__contains__" den j) (hj : j ≤ Y.lv) (ha : PD X Y a fa) (ho : PD X Y o fo) (hmk : behindInMarks .NotIn o = false := by rfl) (hca : Y.ca = true := by rfl) : PDT X Y (.Compare a [.NotIn] [o] pos) (tVal (eRMn c den fa fo)) := fun k => by
  obtain ⟨f, fd, ps, F, hm, hbn, hf⟩ := M
  exact impPT (pt_cmp (pc_notinO (E := WE Y.E) hm F ((k.room hca).mono hj) hbn (fun σ => passAt k.tk σ) (ha k) (ho k)) hmk) fun σ H Q h => in_imp (n := true) rfl σ H _ (tval_imp σ H Q h)
end
/-- the class c's __iter__ hands on the iterator of the field fl -/
def It1 (P : Program) (w : World) (K : PySem.W.Frag) (mg : Str → Option Value) (base : Heap) (G : Gc) (c : String) (fl : Str) : Prop :=
  ∃ (f : Addr) (fd : FuncData) (N ps : List Str) (x qual : Str) (params : Arguments) (body : List Stmt) (scope : Scope), Meth K (G.cm c) "__iter__" f ∧ FunD K x qual params body scope [] [] f fd ∧ FnScope N ps scope ∧ ps.length = 1 ∧ Binds K fd ps [] ∧ ItBody P w K mg base (G.cm c) f N qual scope body fl
theorem look_fk {fl : Str} {d : D} : ∀ {ks : List Str} {l : List D} {vs : List V} {G : Gc} {Z : Addr → Prop} {H : Hp}, lookD ks l fl = some d → RepL G Z H l vs → ∃ v, (fKeys ks vs).lookup fl = some v ∧ Rep G Z H d v
  | [], _, _, _, _, _, h, _ => by cases h
  | k :: ks, [], _, _, _, _, h, _ => by cases h
  | k :: ks, d' :: l, vs, G, Z, H, h, r => by
    obtain ⟨v, r', rfl, r1, r2⟩ := r
    unfold lookD at h
    by_cases e : fl = k
    · subst e
      rw [if_pos rfl] at h
      cases h
      exact ⟨v, by simp [fKeys], r1⟩
    · rw [if_neg e] at h
      obtain ⟨u, h1, h2⟩ := look_fk h r2
      refine ⟨u, ?_, h2⟩
      have e' : (fl == k) = false := beq_eq_false_iff_ne.mpr e
      simp only [fKeys, List.lookup_cons, e']
      exact h1
section
variable {X : Cx} {Y : Cy} {a tg : Expr} {fa : DE} {c : String} {fl : Str}
theorem di_own (M : It1 X.prog X.w X.K X.mg X.base Y.G c fl) (hj : 1 ≤ Y.lv) (ha : PD X Y a fa) (hca : Y.ca = true := by rfl) : PDI X Y tg a (iOwn c fl fa) := fun k => by
  obtain ⟨f, fd, N, ps, x, qual, params, body, scope, hm, F, S, hps, hb, hbody⟩ := M
  refine impPI (pi_ownI hm F S hps hb hbody ((k.room hca).mono hj) ⟨_, k.tk⟩ (ha k)) fun σ H Q ⟨O, ρ, s, q⟩ => ?_
  refine ⟨O, ρ, s, ?_⟩
  unfold iOwn at q
  cases ea : fa ρ with
  | ex z => rw [ea] at q; exact q
  | no => rw [ea] at q; exact q
  | ok dx =>
    rw [ea] at q
    simp only [R.bind_ok] at q
    intro v H1 s1 rv
    cases dx with
    | obj c' ks l =>
      unfold itO at q
      simp only at q
      split at q
      · rename_i hc
        subst hc
        split at q
        · rename_i kinds hk
          obtain ⟨p, dp, us, rfl, n, hp, _, r1⟩ := rv
          obtain ⟨u, hu, ru⟩ := look_fk hk r1
          obtain ⟨lp, zs, rfl, nz, hl, rz⟩ := ru
          refine ⟨p, dp, _, lp, zs, rfl, hp, hu, hl, ?_⟩
          rw [k.K]
          exact q _ H1 s1 (walkS_itl nz hl rz)
        · exact q.elim
      · exact q.elim
    | _ => exact q.elim
end
end Tw
namespace Tw
open PySem PySem.Spec L2
open PyProof.Rows hiding St
/-- def __iter__(self): return iter(self.fl) -/
theorem it_body {P : Program} {w : World} {K : PySem.W.Frag} {mg : Str → Option Value} {base : Heap} {C f : Addr} {N ps : List Str} {qual fl sn : Str} {scope : Scope} {p1 p2 p3 p4 p5 : Pos} (S : FnScope N ps scope) (hN : N = [sn]) (hv : scope.names.lookup sn = some .local) (hd : (sn == ("__debug__" : Str)) = false)
    (hcd : (sn == ("__classdict__" : Str)) = false) (hi : scope.names.lookup ("iter" : Str) = some .globalImplicit) (hm : mg "iter" = none) (hc : Cls K C) (hn : NoAttr K C fl) : ItBody P w K mg base C f N qual scope [.Return (some (.Call (.Name "iter" p1) [.Attribute (.Name sn p2) fl p3] [] p4)) p5] fl := by
  intro cdv A outer s H E p dx fs l zs Q e hl hz q
  subst hN
  have vs : Vis (cxOf (L2.CX P w) P w K mg base [sn] qual scope f cdv A outer s H E).env.scope sn := .inl hv
  refine ⟨_, pss_one (ps_ret (pe_callB (X := cxOf (L2.CX P w) P w K mg base [sn] qual scope f cdv A outer s H E) ItX.call_iterN hi hm (by decide +kernel) (pa_cons (pe_fld (pe_var (i := 0) rfl vs hd hcd) rfl) pa_nil rfl) (by decide) (by decide) rfl rfl)), ?_⟩
  refine ⟨.ref p, rfl, p, C, dx, fs, .ref l, rfl, e, hc, hn, hl, l, zs, rfl, SqL.of hz, fun it h1 h2 => q it h1 h2⟩
end Tw

namespace Tw
open PySem
abbrev GD := D → D → D → List D → R (D × D × D × D)
def gD1 : D → Option Nat
  | .gst j => some j
  | _ => none
/-- the field f's own container: its place, its content -/
def fldG (i : Nat) (f : Str) (ρ : DEnv) : Option (Nat × D) := match ρ[i]? with
  | some (some (.slf s)) => match (oFld f s).bind gD1 with
    | some j => match ρ[j]? with
      | some (some (.gho d)) => some (j, d)
      | _ => none
    | none => none
  | _ => none
/-- self.f, read only -/
def eSelf (i : Nat) (f : Str) : DE := fun ρ => match fldG i f ρ with
  | some (_, d) => .ok d
  | none => match ρ[i]? with
    | some (some (.slf s)) => match oFld f s with
      | some (.gst _) => .no
      | some d => .ok d
      | none => .no
    | _ => .no
/-- self.f = [] or {} -/
def sGNew (i : Nat) (f : Str) (j : Nat) (e : DE) : DS := fun ρ => (e ρ).st ρ fun d => match ρ[i]? with
  | some (some (.slf s)) => match ρ[j]? with
    | some none => match putF f (.gst j) s with
      | some s' => .ok (.nx ((ρ.set j (some (.gho d))).set i (some (.slf s'))))
      | none => .no
    | _ => .no
  | _ => .no
/-- self.f.append(e) -/
def sGApp (i : Nat) (f : Str) (e : DE) : DS := fun ρ => match fldG i f ρ with
  | some (j, .lst l) => (e ρ).st ρ fun y => if l.length < lineD then .ok (.nx (ρ.set j (some (.gho (.lst (l ++ [y])))))) else .no
  | _ => .no
/-- self.f[k] = e -/
def sGPut (i : Nat) (f : Str) (k e : DE) : DS := fun ρ => (e ρ).st ρ fun v => match fldG i f ρ with
  | some (j, .dct ks vs) => (k ρ).st ρ fun x => match x with
    | .str s => if ks.length < lineD then .ok (.nx (ρ.set j (some (.gho (.dct (dPutK s ks) (dPutV s v ks vs)))))) else .no
    | _ => .no
  | _ => .no
/-- the fields wait for the places 12 and 13 alone -/
def okG1 : D → Bool
  | .gst j => j == 12 || j == 13
  | _ => true
def okG : D → Bool
  | .obj _ _ l => l.all okG1
  | _ => false
/-- self.m(..), the object and its containers are handed on -/
def sGCall (i : Nat) (f : GD) (as : DA) : DS := fun ρ => (as ρ).st ρ fun xs => match ρ[i]? with
  | some (some (.slf s)) => match ρ[(12 : Nat)]? with
    | some (some (.gho a)) => match ρ[(13 : Nat)]? with
      | some (some (.gho b)) => if okG s then (match f s a b xs with
        | .ok r => .ok (.nx (((ρ.set 12 (some (.gho r.2.2.1))).set 13 (some (.gho r.2.2.2))).set i (some (.slf r.2.1))))
        | .ex e => .ok (.xx e (ρ.map fun _ => none))
        | .no => .no) else .no
      | _ => .no
    | _ => .no
  | _ => .no
def outG (ρ : DEnv) (d : D) : R (D × D × D × D) := match ρ[(0 : Nat)]? with
  | some (some (.slf s)) => match ρ[(12 : Nat)]? with
    | some (some (.gho a)) => match ρ[(13 : Nat)]? with
      | some (some (.gho b)) => if okG s then .ok (d, s, a, b) else .no
      | _ => .no
    | _ => .no
  | _ => .no
def endG (r : R Out) : R (D × D × D × D) := match r with
  | .ok (.nx ρ) => outG ρ .non
  | .ok (.rt d ρ) => outG ρ d
  | .ok (.xx e _) => .ex e
  | _ => .no
/-- a method that changes the object under construction; n names, p parameters -/
def initG (n p : Nat) (b : DS) : GD := fun s g0 g1 ds => if ds.length + 1 = p ∧ n ≤ 12 ∧ okG s then endG (b ((some (.slf s) :: envD (n - 1) ds) ++ (List.replicate (12 - n) none ++ [some (.gho g0), some (.gho g1)]))) else .no
def unG (a b : D) : D → D
  | .gst j => if j = 12 then a else b
  | d => d
def outQ (r : R (D × D × D × D)) : R (D × D) := match r with
  | .ok (d, .obj c ks l, a, b) => .ok (d, .obj c ks (l.map (unG a b)))
  | .ex e => .ex e
  | _ => .no
/-- an __init__ of such an object -/
def initQ (n p : Nat) (b : DS) (s : D) (ds : List D) : R (D × D) := if ds.length + 1 = p ∧ n ≤ 12 then outQ (endG (b ((some (.slf s) :: envD (n - 1) ds) ++ List.replicate (14 - n) none))) else .no
def sGCallC (c : String) (i : Nat) (f : GD) (as : DA) : DS := fun ρ => match ρ[i]? with
  | some (some (.slf (.obj c' _ _))) => if c' = c then sGCall i f as ρ else .no
  | _ => .no
/-- C.__init__(self, ..) -/
def sInitC (i : Nat) (f : D → List D → R (D × D)) (as : DA) : DS := fun ρ => match ρ[i]? with
  | some (some (.slf (.obj c ks l))) => (as ρ).st ρ fun xs => if noGst l then (match f (.obj c ks l) xs with
    | .ok p => .ok (.nx (ρ.set i (some (.slf p.2))))
    | .ex e => .ok (.xx e (ρ.map fun _ => none))
    | .no => .no) else .no
  | _ => .no
/-- x(..), x a name that holds the class c -/
def eCls (c : String) (init : D → List D → R (D × D)) (i : Nat) (as : DA) : DE := fun ρ => match ρ[i]? with
  | some (some (.val (.cls c'))) => if c' = c then (as ρ).bind (mkD c init) else .no
  | _ => .no
/-- C.m(..), m a classmethod of C -/
def eClm (c : String) (f : List D → R D) (as : DA) : DE := fun ρ => (as ρ).bind fun xs => f (.cls c :: xs)
/-- how the arguments of Draft(..) come together -/
def gDr1 (ds es : List D) : List D := ds ++ (es ++ [.tup [], .tup []])
def gDr2 (ds es : List D) : List D := ds ++ (es ++ [.tup []])
def gDr3 (ds es : List D) : List D := ds ++ (es ++ [])
/-- what is walked is a list -/
def iLst (e : DE) : DI := fun ρ => (e ρ).bind fun x => match x with
  | .lst l => .ok l
  | _ => .no
end Tw

set_option maxHeartbeats 2000000
namespace Tw
open PySem PySem.Spec L2
open PyProof.Rows hiding St
section
variable {Y : Cy} {O : Addr → Prop} {ρ : DEnv} {σ : L2.St} {H H' : Hp} {α : Nat → Addr} {i j : Nat} {f : Str} {d s : D}
theorem fldG_eq (h : fldG i f ρ = some (j, d)) : ∃ s, ρ[i]? = some (some (.slf s)) ∧ oFld f s = some (.gst j) ∧ ρ[j]? = some (some (.gho d)) := by
  unfold fldG at h
  split at h
  · rename_i s hs
    split at h
    · rename_i k hk
      split at h
      · rename_i d' hd
        cases h
        refine ⟨s, hs, ?_, hd⟩
        cases e : oFld f s with
        | none => rw [e] at hk; cases hk
        | some x =>
          rw [e] at hk
          cases x <;> first | (cases hk; done) | (cases hk; rfl)
      · cases h
    · cases h
  · cases h
theorem lookGL {G : Gc} {Z : Addr → Prop} {fl : Str} {d : D} : ∀ {ks : List Str} {l : List D} {vs : List V}, lookD ks l fl = some d → RepGL G Z α ρ H l vs → ∃ v, (fKeys ks vs).lookup fl = some v ∧ RepG G Z α ρ H d v
  | [], _, _, h, _ => by cases h
  | k :: ks, [], _, h, _ => by cases h
  | k :: ks, d' :: l, vs, h, r => by
    obtain ⟨v, r', rfl, r1, r2⟩ := r
    unfold lookD at h
    by_cases e : fl = k
    · subst e
      rw [if_pos rfl] at h
      cases h
      exact ⟨v, by simp [fKeys], r1⟩
    · rw [if_neg e] at h
      obtain ⟨u, h1, h2⟩ := lookGL h r2
      refine ⟨u, ?_, h2⟩
      have e' : (fl == k) = false := beq_eq_false_iff_ne.mpr e
      simp only [fKeys, List.lookup_cons, e']
      exact h1
theorem oFld_look {f : Str} {s d : D} (h : oFld f s = some d) : ∃ c ks l, s = .obj c ks l ∧ lookD ks l f = some d := by
  cases s with
  | obj c ks l =>
    refine ⟨c, ks, l, rfl, ?_⟩
    have h' : (match lookD ks l f with | some v => some v | none => none) = some d := h
    cases e : lookD ks l f with
    | none => rw [e] at h'; cases h'
    | some v => rw [e] at h'; exact h'
  | _ => cases h
/-- the object's field in the heap -/
theorem slf_fld (sr : SRa Y O α ρ σ H) (hs : ρ[i]? = some (some (.slf s))) (hf : oFld f s = some d) : ∃ c dx fs v, σ[i]? = some (some (.ref Y.sa)) ∧ α i = Y.sa ∧ H Y.sa = some (.ins (Y.G.cm c) dx fs) ∧ Y.G.has c ∧ f ∈ fldOf c ∧ fs.lookup f = some v ∧ RepG Y.G (Zo Y.Ze O) α ρ H d v := by
  obtain ⟨e1, e2, c, ks, l, dx, vs, rfl, hH, ⟨hl, hc, hk⟩, r⟩ := sr.slf i s hs
  obtain ⟨c', ks', l', e, hd⟩ := oFld_look hf
  cases e
  obtain ⟨v, hv, rv⟩ := lookGL hd r
  rw [e2] at e1 hH
  exact ⟨c, dx, _, v, e1, e2, hH, hc, hk f (lookD_mem hd), hv, rv⟩
/-- a mutation of a container that the object under construction holds -/
theorem SRa.mutH {d' : D} {o : HO} (s : SRa Y O α ρ σ H) (hj : ρ[j]? = some (some (.gho d))) (k : H (α j) ≠ none → O (α j) → RepW Y.G (Zo Y.Ze O) (upd H (α j) o) d' (.ref (α j))) : SRa Y O α (ρ.set j (some (.gho d'))) σ (upd H (α j) o) := by
  have hl : j < ρ.length := (List.getElem?_eq_some_iff.mp hj).1
  have oj : isOwn ρ j := ⟨d, .inr (.inr hj)⟩
  have Oj : O (α j) := (s.oeq _).mpr ⟨j, oj, rfl⟩
  have hne := s.ot _ Oj
  obtain ⟨rj, nj⟩ := s.gho j d hj
  have sub : ∀ i, isOwn (ρ.set j (some (.gho d'))) i ↔ isOwn ρ i := fun i => by
    refine ⟨fun h => ?_, fun h => ?_⟩
    · rcases isOwn_set h with ⟨e, _⟩ | ⟨_, k⟩
      · rw [e]; exact oj
      · exact k
    · by_cases hi : i = j
      · subst hi
        exact ⟨d', .inr (.inr (List.getElem?_set_self hl))⟩
      · obtain ⟨d'', h⟩ := h
        refine ⟨d'', ?_⟩
        rw [List.getElem?_set_ne (Ne.symm hi)]
        exact h
  have sb : Sub (Zo Y.Ze O) H (upd H (α j) o) := fun a u n e => by
    rw [upd_ne fun q => n (.inr (by rw [q]; exact Oj))]
    exact e
  have an : ∀ i, isOwn ρ i → i ≠ j → α i ≠ α j := fun i h n e => n (s.inj i j h oj e)
  have rw' : ∀ {d : D} {p : Addr}, p ≠ α j → RepW Y.G (Zo Y.Ze O) H d (.ref p) → RepW Y.G (Zo Y.Ze O) (upd H (α j) o) d (.ref p) := fun {d p} hp r => by
    cases d with
    | lst l => obtain ⟨a, vs, e, t, r⟩ := r; cases e; exact ⟨_, vs, rfl, by rw [upd_ne hp]; exact t, r.mono sb fun _ q => .inl q⟩
    | dct ks l => obtain ⟨a, vs, e, t, k, r⟩ := r; cases e; exact ⟨_, vs, rfl, by rw [upd_ne hp]; exact t, k, r.mono sb fun _ q => .inl q⟩
    | obj c ks l => obtain ⟨a, dx, vs, e, t, k, r⟩ := r; cases e; exact ⟨_, dx, vs, rfl, by rw [upd_ne hp]; exact t, k, r.mono sb fun _ q => .inl q⟩
    | _ => exact Rep.mono sb (fun _ q => .inl q) r
  have gl : ∀ {ds : List D} {vs : List V}, RepGL Y.G (Zo Y.Ze O) α ρ H ds vs → RepGL Y.G (Zo Y.Ze O) α (ρ.set j (some (.gho d'))) (upd H (α j) o) ds vs := by
    intro ds
    induction ds with
    | nil => intro vs h; exact h
    | cons d ds ih =>
      intro vs h
      obtain ⟨v, r, e, h1, h2⟩ := h
      refine ⟨v, r, e, ?_, ih h2⟩
      cases d with
      | gst i =>
        obtain ⟨e, d'', kk⟩ := h1
        by_cases hi : i = j
        · subst hi; exact ⟨e, d', List.getElem?_set_self hl⟩
        · exact ⟨e, d'', by rw [List.getElem?_set_ne (Ne.symm hi)]; exact kk⟩
      | _ => exact Rep.mono sb (fun _ q => .inl q) h1
  refine ⟨by rw [List.length_set]; exact s.len, fun i d'' e => ?_, fun i d'' e => ?_, fun i d'' e => ?_, fun i d'' e => ?_, fun i k hi hk e => s.inj i k ((sub i).mp hi) ((sub k).mp hk) e, fun a => ?_, fun a z q => ?_, fun a z q => ?_, ptrA s.ptr (fun q => by cases q)⟩
  · rcases set_at e with ⟨_, q⟩ | ⟨_, q⟩
    · cases q
    · obtain ⟨v, e1, r⟩ := s.val i d'' q
      exact ⟨v, e1, r.mono sb fun _ q => .inl q⟩
  · rcases set_at e with ⟨_, q⟩ | ⟨hi, q⟩
    · cases q
    · obtain ⟨e1, n, r⟩ := s.own i d'' q
      exact ⟨e1, n, rw' (an i ⟨d'', .inl q⟩ hi) r⟩
  · rcases set_at e with ⟨_, q⟩ | ⟨hi, q⟩
    · cases q
    · obtain ⟨e1, n, c, ks, l, dx, vs, e2, e3, e4, r⟩ := s.slf i d'' q
      exact ⟨e1, n, c, ks, l, dx, vs, e2, by rw [upd_ne (an i ⟨d'', .inr (.inl q)⟩ hi)]; exact e3, e4, gl r⟩
  · rcases set_at e with ⟨rfl, q⟩ | ⟨hi, q⟩
    · cases q
      exact ⟨k hne Oj, nj⟩
    · obtain ⟨r, k⟩ := s.gho i d'' q
      exact ⟨rw' (an i ⟨d'', .inr (.inr q)⟩ hi) r, k⟩
  · rw [s.oeq]
    exact ⟨fun ⟨i, k, e⟩ => ⟨i, (sub i).mpr k, e⟩, fun ⟨i, k, e⟩ => ⟨i, (sub i).mp k, e⟩⟩
  · by_cases h : a = α j
    · subst h; rw [upd_same] at q; cases q
    · rw [upd_ne h] at q; exact s.zt a z q
  · by_cases h : a = α j
    · subst h; rw [upd_same] at q; cases q
    · rw [upd_ne h] at q; exact s.ot a z q
/-- a new container for a place of the object under construction -/
theorem SRa.putH {p : Addr} (s : SRa Y O α ρ σ H) (sm : Same H H') (hp0 : H p = none) (hj : ρ[j]? = some none) (hn : Y.n ≤ j) (hp : H' p ≠ none) (r : RepW Y.G (fun a => Zo Y.Ze O a ∨ a = p) H' d (.ref p)) :
    SRa Y (fun a => O a ∨ a = p) (fun i => if i = j then p else α i) (ρ.set j (some (.gho d))) σ H' := by
  have zt : ∀ a, Zo Y.Ze O a → H a ≠ none := fun a z => z.elim (s.zt a) (s.ot a)
  have hz : ¬ Zo Y.Ze O p := fun z => zt p z hp0
  have hl : j < ρ.length := (List.getElem?_eq_some_iff.mp hj).1
  have sub : ∀ i, isOwn (ρ.set j (some (.gho d))) i ↔ i = j ∨ isOwn ρ i := fun i => by
    refine ⟨fun h => ?_, fun h => ?_⟩
    · rcases isOwn_set h with ⟨e, _⟩ | ⟨_, k⟩
      · exact .inl e
      · exact .inr k
    · by_cases hi : i = j
      · subst hi
        exact ⟨d, .inr (.inr (List.getElem?_set_self hl))⟩
      · rcases h with h | h
        · exact absurd h hi
        · obtain ⟨d', h⟩ := h
          refine ⟨d', ?_⟩
          rw [List.getElem?_set_ne (Ne.symm hi)]
          exact h
  have zz : ∀ a, Zo Y.Ze (fun a => O a ∨ a = p) a → Zo Y.Ze O a ∨ H a = none := fun a z => by
    rcases z with z | z | rfl
    · exact .inl (.inl z)
    · exact .inl (.inr z)
    · exact .inr hp0
  have aj : ∀ i, isOwn ρ i → (if i = j then p else α i) = α i ∧ α i ≠ p := fun i h => by
    have hi : i ≠ j := fun e => isOwn_none hj (e ▸ h)
    exact ⟨if_neg hi, fun e => hz (.inr (e ▸ (s.oeq _).mpr ⟨i, h, rfl⟩))⟩
  refine ⟨by rw [List.length_set]; exact s.len, fun i d' e => ?_, fun i d' e => ?_, fun i d' e => ?_, fun i d' e => ?_, fun i k hi hk e => ?_, fun a => ?_, fun a z q => s.zt a z (sm.free q), fun a z => ?_, ptrA s.ptr (fun q => by cases q)⟩
  · rcases set_at e with ⟨rfl, q⟩ | ⟨hi, q⟩
    · cases q
    · obtain ⟨v, e1, r⟩ := s.val i d' q
      exact ⟨v, e1, r.mono (Same.sub sm) zz⟩
  · rcases set_at e with ⟨rfl, q⟩ | ⟨hi, q⟩
    · cases q
    · obtain ⟨e1, n, r⟩ := s.own i d' q
      rw [if_neg hi]
      exact ⟨e1, n, r.mono sm zz⟩
  · rcases set_at e with ⟨rfl, q⟩ | ⟨hi, q⟩
    · cases q
    · obtain ⟨e1, n, c, ks, l, dx, vs, e2, e3, e4, r⟩ := s.slf i d' q
      rw [if_neg hi]
      refine ⟨e1, n, c, ks, l, dx, vs, e2, sm _ _ e3, e4, RepGL.mono sm zz (fun k d'' hk => ?_) r⟩
      have hki : k ≠ j := fun e => by subst e; rw [hj] at hk; cases hk
      exact ⟨if_neg hki, d'', by rw [List.getElem?_set_ne (Ne.symm hki)]; exact hk⟩
  · rcases set_at e with ⟨rfl, q⟩ | ⟨hi, q⟩
    · cases q
      rw [if_pos rfl]
      exact ⟨r.weak fun a z => by rcases z with z | z | z; exact .inl (.inl z); exact .inl (.inr z); exact .inr z, hn⟩
    · obtain ⟨r, k⟩ := s.gho i d' q
      rw [if_neg hi]
      exact ⟨r.mono sm zz, k⟩
  · rcases (sub i).mp hi with rfl | hi'
    · rcases (sub k).mp hk with rfl | hk'
      · rfl
      · have e : p = if k = i then p else α k := by rw [if_pos rfl] at e; exact e
        rw [(aj k hk').1] at e
        exact absurd e.symm (aj k hk').2
    · rcases (sub k).mp hk with rfl | hk'
      · have e : (if i = k then p else α i) = p := by rw [if_pos (rfl : k = k)] at e; exact e
        rw [(aj i hi').1] at e
        exact absurd e (aj i hi').2
      · have e : (if i = j then p else α i) = if k = j then p else α k := e
        rw [(aj i hi').1, (aj k hk').1] at e
        exact s.inj i k hi' hk' e
  · refine ⟨fun h => ?_, fun ⟨i, h, e⟩ => ?_⟩
    · rcases h with h | rfl
      · obtain ⟨i, hi, e⟩ := (s.oeq a).mp h
        exact ⟨i, (sub i).mpr (.inr hi), (aj i hi).1.trans e⟩
      · exact ⟨j, (sub j).mpr (.inl rfl), if_pos rfl⟩
    · have e : (if i = j then p else α i) = a := e
      rcases (sub i).mp h with rfl | h
      · rw [if_pos rfl] at e
        exact .inr e.symm
      · rw [(aj i h).1] at e
        exact .inl ((s.oeq a).mpr ⟨i, h, e⟩)
  · rcases z with z | rfl
    · exact fun q => s.ot a z (sm.free q)
    · exact hp
/-- a field of the object under construction is stored -/
theorem SRa.mutS {d d' dv : D} {y : V} (s : SRa Y O α ρ σ H) (hi : ρ[i]? = some (some (.slf d))) (ry : RepG Y.G (Zo Y.Ze O) α ρ H dv y) (hp : putF f dv d = some d') :
    ∃ c ks dx vs, f ∈ fldOf c ∧ Y.G.has c ∧ ks.length < 999 ∧ ks.length = vs.length ∧ σ[i]? = some (some (.ref Y.sa)) ∧ O Y.sa ∧ H Y.sa = some (.ins (Y.G.cm c) dx (fKeys ks vs)) ∧
      SRa Y O α (ρ.set i (some (.slf d'))) σ (upd H Y.sa (.ins (Y.G.cm c) dx (L2.putF f y (fKeys ks vs)))) := by
  have hl : i < ρ.length := (List.getElem?_eq_some_iff.mp hi).1
  obtain ⟨ei, ea, c, ks, l, dx, vs, rfl, hH, ⟨hlen, hc, hf⟩, rl⟩ := s.slf i d hi
  have oi : isOwn ρ i := ⟨_, .inr (.inl hi)⟩
  have Oi : O (α i) := (s.oeq _).mpr ⟨i, oi, rfl⟩
  unfold putF at hp
  simp only at hp
  split at hp
  rotate_left
  · cases hp
  rename_i hpk
  cases hp
  rw [ea] at ei Oi hH
  generalize hnew : D.obj c (putDk f ks) (putDv f dv ks l) = d'
  have sub : ∀ j, isOwn (ρ.set i (some (.slf d'))) j ↔ isOwn ρ j := fun j => isOwn_setSlf hi
  have sb : Sub (Zo Y.Ze O) H (upd H Y.sa (.ins (Y.G.cm c) dx (L2.putF f y (fKeys ks vs)))) := fun a u n e => by
    rw [upd_ne fun q => n (.inr (by rw [q]; exact Oi))]
    exact e
  have an : ∀ j, isOwn ρ j → j ≠ i → α j ≠ Y.sa := fun j h n e => n (s.inj j i h oi (e.trans ea.symm))
  have rw' : ∀ {d : D} {p : Addr}, p ≠ Y.sa → RepW Y.G (Zo Y.Ze O) H d (.ref p) → RepW Y.G (Zo Y.Ze O) (upd H Y.sa (.ins (Y.G.cm c) dx (L2.putF f y (fKeys ks vs)))) d (.ref p) := fun {d p} hp r => by
    cases d with
    | lst l => obtain ⟨a, vs, e, t, r⟩ := r; cases e; exact ⟨_, vs, rfl, by rw [upd_ne hp]; exact t, r.mono sb fun _ q => .inl q⟩
    | dct ks l => obtain ⟨a, vs, e, t, k, r⟩ := r; cases e; exact ⟨_, vs, rfl, by rw [upd_ne hp]; exact t, k, r.mono sb fun _ q => .inl q⟩
    | obj c ks l => obtain ⟨a, dx, vs, e, t, k, r⟩ := r; cases e; exact ⟨_, dx, vs, rfl, by rw [upd_ne hp]; exact t, k, r.mono sb fun _ q => .inl q⟩
    | _ => exact Rep.mono sb (fun _ q => .inl q) r
  have g1 : ∀ {d : D} {v : V}, RepG Y.G (Zo Y.Ze O) α ρ H d v → RepG Y.G (Zo Y.Ze O) α (ρ.set i (some (.slf d'))) (upd H Y.sa (.ins (Y.G.cm c) dx (L2.putF f y (fKeys ks vs)))) d v := by
    intro d v h1
    cases d with
    | gst j =>
      obtain ⟨e, d'', kk⟩ := h1
      have hki : j ≠ i := fun e => by subst e; rw [hi] at kk; cases kk
      exact ⟨e, d'', by rw [List.getElem?_set_ne (Ne.symm hki)]; exact kk⟩
    | _ => exact Rep.mono sb (fun _ q => .inl q) h1
  have gl : ∀ {ds : List D} {vs' : List V}, RepGL Y.G (Zo Y.Ze O) α ρ H ds vs' → RepGL Y.G (Zo Y.Ze O) α (ρ.set i (some (.slf d'))) (upd H Y.sa (.ins (Y.G.cm c) dx (L2.putF f y (fKeys ks vs)))) ds vs' := by
    intro ds
    induction ds with
    | nil => intro vs h; exact h
    | cons d ds ih =>
      intro vs h
      obtain ⟨v, r, e, h1, h2⟩ := h
      exact ⟨v, r, e, g1 h1, ih h2⟩
  refine ⟨c, ks, dx, vs, hpk.2, hc, hpk.1, hlen, ei, Oi, hH, by rw [List.length_set]; exact s.len, fun j d'' e => ?_, fun j d'' e => ?_, fun j d'' e => ?_, fun j d'' e => ?_, fun j k hj hk e => s.inj j k ((sub j).mp hj) ((sub k).mp hk) e, fun a => ?_, fun a z q => ?_, fun a z q => ?_, ptrA s.ptr (fun q => by cases q)⟩
  · rcases set_at e with ⟨_, q⟩ | ⟨_, q⟩
    · cases q
    · obtain ⟨v, e1, r⟩ := s.val j d'' q
      exact ⟨v, e1, r.mono sb fun _ q => .inl q⟩
  · rcases set_at e with ⟨_, q⟩ | ⟨hj, q⟩
    · cases q
    · obtain ⟨e1, n, r⟩ := s.own j d'' q
      exact ⟨e1, n, rw' (an j ⟨d'', .inl q⟩ hj) r⟩
  · rcases set_at e with ⟨ej, q⟩ | ⟨hj, q⟩
    · cases q
      subst ej
      refine ⟨by rw [ei, ea], ea, c, _, _, dx, putVv f y ks vs, hnew.symm, ?_, ⟨putVv_len hlen, hc, fun g hg => (putDk_mem hg).elim (fun e => by rw [e]; exact hpk.2) (hf g)⟩, repGL_put (g1 ry) hlen (gl rl)⟩
      rw [ea, upd_same, putF_k hlen]
    · obtain ⟨e1, n, c, ks, l, dx, vs, e2, e3, e4, r⟩ := s.slf j d'' q
      exact absurd n (an j ⟨d'', .inr (.inl q)⟩ hj)
  · rcases set_at e with ⟨_, q⟩ | ⟨hj, q⟩
    · cases q
    · obtain ⟨r, k⟩ := s.gho j d'' q
      exact ⟨rw' (an j ⟨d'', .inr (.inr q)⟩ hj) r, k⟩
  · rw [s.oeq]
    exact ⟨fun ⟨j, k, e⟩ => ⟨j, (sub j).mpr k, e⟩, fun ⟨j, k, e⟩ => ⟨j, (sub j).mp k, e⟩⟩
  · by_cases h : a = Y.sa
    · subst h; rw [upd_same] at q; cases q
    · rw [upd_ne h] at q; exact s.zt a z q
  · by_cases h : a = Y.sa
    · subst h; rw [upd_same] at q; cases q
    · rw [upd_ne h] at q; exact s.ot a z q
end
end Tw

set_option maxHeartbeats 2000000
namespace Tw
open PySem PySem.Spec L2
open PyProof.Rows hiding St
section
variable {X : Cx} {Y : Cy} {a b e o tg : Expr} {fa fb : DE} {pos pos' p p2 apos cpos : Pos} {x f : Str} {i j : Nat}
theorem SR.sa_of {O : Addr → Prop} {ρ : DEnv} {σ : L2.St} {H : Hp} {s : D} (sr : SR Y O ρ σ H) (hs : ρ[i]? = some (some (.slf s))) : σ[i]? = some (some (.ref Y.sa)) ∧ O Y.sa := by
  obtain ⟨α, sr⟩ := sr
  obtain ⟨e1, e2, _⟩ := sr.slf i s hs
  exact ⟨by rw [← e2]; exact e1, (sr.oeq _).mpr ⟨i, ⟨s, .inr (.inl hs)⟩, e2⟩⟩
/-- self.f -/
theorem pd_self (i : Nat) (hN : X.N[i]? = some x) (hv : Vis X.env.scope x := by first | exact Or.inl rfl | exact Or.inr (Or.inl rfl) | exact Or.inr (Or.inr rfl)) (hd : (x == ("__debug__" : Str)) = false := by decide) (hcd : (x == ("__classdict__" : Str)) = false := by decide)
    (hb : attributeBase (.Name x p) f X.env (eval (.Name x p) X.env) = eval (.Name x p) X.env := by rfl) : PDw X Y (.Attribute (.Name x p) f pos) (eSelf i f) := fun k => by
  refine impPE (pe_fld (pe_var hN hv hd hcd) hb) fun σ H Q ⟨O, ρ, ⟨α, s⟩, q⟩ => ?_
  unfold eSelf at q
  split at q
  · rename_i j d hj
    obtain ⟨sd, hs, hf, hg⟩ := fldG_eq hj
    obtain ⟨c, dx, fs, v, e1, e2, hH, hc, hk, hl, rv⟩ := slf_fld s hs hf
    obtain ⟨rfl, d', _⟩ := rv
    obtain ⟨rg, _⟩ := s.gho j d hg
    exact ⟨_, e1, Y.sa, Y.G.cm c, dx, fs, _, rfl, hH, k.K ▸ Y.G.cls c hc, k.K ▸ Y.G.noat c f hc hk, hl, q _ H (Same.refl H) rg⟩
  · split at q
    · rename_i sd hs
      split at q
      · exact q.elim
      · rename_i d hn hf
        obtain ⟨c, dx, fs, v, e1, e2, hH, hc, hk, hl, rv⟩ := slf_fld s hs hf
        have rv' : Rep Y.G (Zo Y.Ze O) H d v := by
          cases d with
          | gst j => exact (hn j rfl).elim
          | _ => exact rv
        exact ⟨_, e1, Y.sa, Y.G.cm c, dx, fs, v, rfl, hH, k.K ▸ Y.G.cls c hc, k.K ▸ Y.G.noat c f hc hk, hl, q _ H (Same.refl H) rv'.w⟩
      · exact q.elim
    · exact q.elim
/-- self.f = [] -/
theorem ds_gnew (hN : X.N[i]? = some x) (ha : PDF X Y a fa) (hj : Y.n ≤ j) (hv : Vis X.env.scope x := by first | exact Or.inl rfl | exact Or.inr (Or.inl rfl) | exact Or.inr (Or.inr rfl)) (hd : (x == ("__debug__" : Str)) = false := by decide) (hcd : (x == ("__classdict__" : Str)) = false := by decide)
    (hs : swapsWith a (some (.Attribute (.Name x p) f pos')) pos.line X.env = pure false := by rfl) : PDS X Y (.Assign [.Attribute (.Name x p) f pos'] a pos) (sGNew i f j fa) := fun k => by
  refine impPS (ps_fld (pe_var hN hv hd hcd) (ha k) hs) fun N σ H ⟨O, ρ, s, q⟩ => ?_
  unfold sGNew at q
  refine expf_then s q fun d ea q p1 H1 s1 h0 h1 rv => ?_
  split at q
  · rename_i sd hs
    split at q
    · rename_i hjn
      split at q
      · rename_i s' hp
        obtain ⟨α, s⟩ := s
        have s2 := s.putH s1 h0 hjn hj h1 rv
        have hji : i ≠ j := fun z => by rw [z, hjn] at hs; cases hs
        have hl : j < ρ.length := (List.getElem?_eq_some_iff.mp hjn).1
        have hs2 : (ρ.set j (some (.gho d)))[i]? = some (some (.slf sd)) := by rw [List.getElem?_set_ne (Ne.symm hji)]; exact hs
        obtain ⟨c, ks, dx, vs, m1, m2, m3, m4, m5, m6, m7, s3⟩ := s2.mutS (dv := .gst j) (y := .ref p1) hs2 ⟨congrArg V.ref (if_pos rfl).symm, d, List.getElem?_set_self hl⟩ hp
        refine ⟨_, m5, Y.sa, Y.G.cm c, dx, fKeys ks vs, rfl, m7, k.K ▸ Y.G.cls c m2, k.K ▸ Y.G.noat c f m2 m1, by rw [fKeys_len m4]; omega, ?_⟩
        have Osa : O Y.sa := (SR.sa_of ⟨α, s⟩ hs).2
        refine q _ σ _ (Stp.trans (O1 := fun a => O a ∨ a = p1) (H1 := H1) ⟨fun b o _ e => s1 b o e, fun b z => z.elim .inl fun e => .inr (by rw [e]; exact h0)⟩ (Stp.own (.inl Osa))) ⟨_, s3⟩
      · exact q.elim
    · exact q.elim
  · exact q.elim
/-- self.f.append(e) -/
theorem ds_gapp (hN : X.N[i]? = some x) (ha : PD X Y a fa) (hv : Vis X.env.scope x := by first | exact Or.inl rfl | exact Or.inr (Or.inl rfl) | exact Or.inr (Or.inr rfl)) (hd : (x == ("__debug__" : Str)) = false := by decide) (hcd : (x == ("__classdict__" : Str)) = false := by decide)
    (hb : attributeBase (.Name x p) f X.env (eval (.Name x p) X.env) = eval (.Name x p) X.env := by rfl)
    (hbase : attributeBase (.Attribute (.Name x p) f p2) "append" X.env (eval (.Attribute (.Name x p) f p2) X.env) = eval (.Attribute (.Name x p) f p2) X.env := by rfl)
    (hfew : ((backTo cpos (starEach (a :: []) X.env)).all (fun x => !x.1) && (backToKw cpos (keywordEach [] X.env)).all (fun x => x.1.isSome)
      && decide ((a :: []).length + ([] : List Keyword).length + (if ([] : List Keyword).isEmpty then 0 else 1) < 30)) = true := by rfl)
    (hline : (apos.endLine == cpos.line) = true := by rfl) (hs : starEach (a :: []) X.env = (false, eval a X.env) :: starEach [] X.env := by rfl) (hplain : (backTo cpos (starEach [] X.env)).any (·.1) = false := by rfl)
    (hsw : swapsWith (.Call (.Attribute (.Attribute (.Name x p) f p2) "append" apos) [a] [] cpos) none pos.line X.env = pure false := by rfl) :
    PDS X Y (.Expr (.Call (.Attribute (.Attribute (.Name x p) f p2) "append" apos) [a] [] cpos) pos) (sGApp i f fa) := fun k => by
  refine impPS (ps_expr (pe_bm PySem.F.plainAttrs_list PySem.F.slot_list_append PySem.F.type_list_append mt_append (pe_fld (pe_var hN hv hd hcd) hb) (pa_cons (ha k) pa_nil hs) hbase hfew hline hs hplain) hsw) fun N σ H ⟨O, ρ, s, q⟩ => ?_
  unfold sGApp at q
  split at q
  · rename_i j l hj
    obtain ⟨α, s⟩ := s
    obtain ⟨sd, hsd, hf, hg⟩ := fldG_eq hj
    obtain ⟨c, dx, fs, v, e1, e2, hH, hc, hk, hl, rv⟩ := slf_fld s hsd hf
    obtain ⟨rfl, d', _⟩ := rv
    obtain ⟨rg, _⟩ := s.gho j _ hg
    obtain ⟨_, vs, e, hlst, rvs⟩ := rg
    cases e
    have Oj : O (α j) := (s.oeq _).mpr ⟨j, ⟨_, .inr (.inr hg)⟩, rfl⟩
    refine ⟨_, e1, Y.sa, Y.G.cm c, dx, fs, _, rfl, hH, k.K ▸ Y.G.cls c hc, k.K ▸ Y.G.noat c f hc hk, hl, .inl ⟨rfl, vs, SqL.of hlst⟩, exp_then ⟨α, s⟩ q fun d ea q v H1 s1 r1 => ?_⟩
    split at q
    · rename_i hlen
      have hl1 := s1 _ _ hlst
      refine ⟨α j, vs, v, rfl, rfl, hl1, by rw [lineD_eq, ← rvs.length]; exact hlen, ?_⟩
      have s' := (s.same s1).mutH (d' := .lst (l ++ [d])) (o := .lst (vs ++ [v])) hg fun _ _ => ⟨α j, _, rfl, upd_same, RepL.mono (sub_upd Oj) (fun _ z => .inl z) ((rvs.same s1).append (RepL.one r1))⟩
      exact q O σ _ ((Stp.same s1).trans (Stp.own Oj)) ⟨α, s'⟩
    · exact q.elim
  · exact q.elim
/-- self.f[k] = e -/
theorem ds_gput (hN : X.N[i]? = some x) (hk : PDw X Y b fb) (ha : PD X Y a fa) (hv : Vis X.env.scope x := by first | exact Or.inl rfl | exact Or.inr (Or.inl rfl) | exact Or.inr (Or.inr rfl)) (hd : (x == ("__debug__" : Str)) = false := by decide) (hcd : (x == ("__classdict__" : Str)) = false := by decide)
    (hb : attributeBase (.Name x p) f X.env (eval (.Name x p) X.env) = eval (.Name x p) X.env := by rfl)
    (hs : swapsWith a (some (.Subscript (.Attribute (.Name x p) f p2) b pos')) pos.line X.env = pure false := by rfl) : PDS X Y (.Assign [.Subscript (.Attribute (.Name x p) f p2) b pos'] a pos) (sGPut i f fb fa) := fun k => by
  refine impPS (ps_dput (hu_L k.rm) (pe_fld (pe_var hN hv hd hcd) hb) (hk k) (ha k) hs) fun N σ H ⟨O, ρ, s, q⟩ => ?_
  unfold sGPut at q
  refine exp_then s q fun d ea q v H1 s1 r1 => ?_
  split at q
  · rename_i j ks l hj
    have s0 := s.same s1
    obtain ⟨α, s⟩ := s0
    obtain ⟨sd, hsd, hf, hg⟩ := fldG_eq hj
    obtain ⟨c, dx, fs, v', e1, e2, hH, hc, hkf, hl, rv⟩ := slf_fld s hsd hf
    obtain ⟨rfl, d', _⟩ := rv
    obtain ⟨rg, _⟩ := s.gho j _ hg
    obtain ⟨_, vs, e, hdk, hlen, rvs⟩ := rg
    cases e
    have Oj : O (α j) := (s.oeq _).mpr ⟨j, ⟨_, .inr (.inr hg)⟩, rfl⟩
    refine ⟨_, e1, Y.sa, Y.G.cm c, dx, fs, _, rfl, hH, k.K ▸ Y.G.cls c hc, k.K ▸ Y.G.noat c f hc hkf, hl, expw_then ⟨α, s⟩ (SPost.fwd (Stp.same s1) q) fun dk ek q2 u H2 s2 r2 => ?_⟩
    cases dk with
    | str z =>
      simp only at q2
      split at q2
      · rename_i hz
        obtain rfl : u = .str z := r2
        have hl2 := s2 _ _ hdk
        refine ⟨α j, _, rfl, DPut.k (k := Sum.inr z) hl2 (by rw [len_sKeys hlen, lineD_eq]; exact hz), ?_⟩
        have s' := (s.same s2).mutH (d' := .dct (dPutK z ks) (dPutV z d ks l)) (o := .dK (putK (sKeys ks vs) (Sum.inr z) v)) hg fun _ _ =>
          ⟨α j, vPut z v ks vs, rfl, by rw [upd_same, putK_s hlen], vPut_len hlen, RepL.mono (sub_upd Oj) (fun _ z => .inl z) (rep_vPut (r1.same s2) hlen (rvs.same s2))⟩
        exact q2 O σ _ ((Stp.same s2).trans (Stp.own Oj)) ⟨α, s'⟩
      · exact q2.elim
    | _ => exact q2.elim
  · exact q.elim
/-- for x in a container that is only looked at (comprehensions) -/
theorem di_lst (ha : PDw X Y a fa) : PDIw X Y tg a (iLst fa) := fun k => by
  refine impPI (pi_list (ha k)) fun σ H Q h => ?_
  obtain ⟨O, ρ, s, q⟩ := h
  refine ⟨O, ρ, s, ?_⟩
  unfold iLst at q
  cases ea : fa ρ with
  | no => rw [ea] at q; exact q
  | ex z => rw [ea] at q; exact q
  | ok d =>
    rw [ea] at q
    simp only [R.bind_ok] at q
    intro v H1 s1 rv
    cases d with
    | lst l =>
      obtain ⟨p1, vs, rfl, hp, r⟩ := rv
      refine ⟨p1, rfl, ⟨vs, SqL.of hp⟩, ?_⟩
      rw [k.K]
      exact q _ H1 s1 (walkW_itl hp r)
    | _ => exact q.elim
end
end Tw

set_option maxHeartbeats 2000000
namespace Tw
open PySem PySem.Spec L2
open PyProof.Rows hiding St
def GL1 (G : Gc) (Z : Addr → Prop) (β0 β1 : Addr) (H : Hp) (d : D) (v : V) : Prop := match d with
  | .gst j => (j = 12 ∧ v = .ref β0) ∨ (j = 13 ∧ v = .ref β1)
  | d => Rep G Z H d v
def GL (G : Gc) (Z : Addr → Prop) (β0 β1 : Addr) (H : Hp) : List D → List V → Prop
  | [], vs => vs = []
  | d :: ds, vs => ∃ v r, vs = v :: r ∧ GL1 G Z β0 β1 H d v ∧ GL G Z β0 β1 H ds r
/-- the object at a, its two containers at β0, β1 -/
def GAt (G : Gc) (Z : Addr → Prop) (H : Hp) (a : Addr) (s g0 g1 : D) (β0 β1 : Addr) : Prop :=
  (a ≠ β0 ∧ a ≠ β1 ∧ β0 ≠ β1) ∧ (RepW G Z H g0 (.ref β0) ∧ RepW G Z H g1 (.ref β1)) ∧ ∃ c ks l dx vs, s = .obj c ks l ∧ H a = some (.ins (G.cm c) dx (fKeys ks vs)) ∧ (ks.length = vs.length ∧ OkO G c ks) ∧ GL G Z β0 β1 H l vs
/-- all but the object and its containers stand -/
def GFr (a β0 β1 : Addr) (H H' : Hp) : Prop := (∀ b o, b ≠ a → b ≠ β0 → b ≠ β1 → H b = some o → H' b = some o) ∧ ∀ b, H b ≠ none → H' b ≠ none
def Zg (Ze : Addr → Prop) (γ0 γ1 : Addr) (b : Addr) : Prop := Ze b ∨ b = γ0 ∨ b = γ1
def GPoX (G : Gc) (Ze : Addr → Prop) (a β0 β1 : Addr) (H : Hp) (Q : VK) (E : XK) : R (D × D × D × D) → Prop
  | .ok r => ∀ v H' γ0 γ1, GFr a β0 β1 H H' → (γ0 = β0 ∨ γ0 = β1 ∨ H γ0 = none) → (γ1 = β0 ∨ γ1 = β1 ∨ H γ1 = none) → (H' γ0 ≠ none ∧ H' γ1 ≠ none) → GAt G (Zg Ze γ0 γ1) H' a r.2.1 r.2.2.1 r.2.2.2 γ0 γ1 → Rep G (Zg Ze γ0 γ1) H' r.1 v → Q v H'
  | .ex e => ∀ c od H', GFr a β0 β1 H H' → ExRep G Ze H' e c od → E c od H'
  | .no => False
def dspG (G : Gc) (den : GD) : Sp := fun vs H Q E => ∃ Ze a s g0 g1 us ds β0 β1, vs = .ref a :: us ∧ (Ze a ∧ Ze β0 ∧ Ze β1) ∧ (∀ b, Ze b → H b ≠ none) ∧ GAt G Ze H a s g0 g1 β0 β1 ∧ RepL G Ze H ds us ∧ GPoX G Ze a β0 β1 H Q E (den s g0 g1 ds)
/-- such a method of the class c -/
def Gk (P : Program) (w : World) (K : PySem.W.Frag) (mg : Str → Option Value) (base : Heap) (G : Gc) (c : String) (m : Str) (den : GD) (j : Nat) : Prop :=
  ∃ f fd ps, FnOk P w K mg base (L2.CX P w) j f fd ps (dspG G den) ∧ Meth K (G.cm c) m f ∧ Binds K fd ps [] ∧ m ∉ fldOf c ∧ Cls K (G.cm c)
theorem GL_of {G : Gc} {Z : Addr → Prop} {α : Nat → Addr} {ρ : DEnv} {H : Hp} : ∀ {l : List D} {vs : List V}, l.all okG1 = true → RepGL G Z α ρ H l vs → GL G Z (α 12) (α 13) H l vs
  | [], vs, _, h => h
  | d :: l, vs, hk, h => by
    obtain ⟨v, r, e, h1, h2⟩ := h
    obtain ⟨k1, k2⟩ := Bool.and_eq_true_iff.mp (List.all_cons ▸ hk)
    refine ⟨v, r, e, ?_, GL_of k2 h2⟩
    cases d with
    | gst j =>
      obtain ⟨e, _⟩ := h1
      have k1 : (j == 12 || j == 13) = true := k1
      rcases Bool.or_eq_true_iff.mp k1 with q | q
      · obtain rfl := beq_iff_eq.mp q; exact .inl ⟨rfl, e⟩
      · obtain rfl := beq_iff_eq.mp q; exact .inr ⟨rfl, e⟩
    | _ => exact h1
theorem of_GL {G : Gc} {Z Z' : Addr → Prop} {α : Nat → Addr} {ρ : DEnv} {H : Hp} {β0 β1 : Addr} (z : ∀ a, Z' a → Z a) (e0 : α 12 = β0) (e1 : α 13 = β1) (h0 : ∃ d, ρ[(12 : Nat)]? = some (some (.gho d))) (h1 : ∃ d, ρ[(13 : Nat)]? = some (some (.gho d))) : ∀ {l : List D} {vs : List V}, GL G Z β0 β1 H l vs → RepGL G Z' α ρ H l vs
  | [], vs, h => h
  | d :: l, vs, h => by
    obtain ⟨v, r, e, k1, k2⟩ := h
    refine ⟨v, r, e, ?_, of_GL z e0 e1 h0 h1 k2⟩
    cases d with
    | gst j =>
      rcases k1 with ⟨rfl, q⟩ | ⟨rfl, q⟩
      · exact ⟨by rw [e0]; exact q, h0⟩
      · exact ⟨by rw [e1]; exact q, h1⟩
    | _ => exact Rep.weak z k1
theorem RepW.sub {G : Gc} {Z Z' : Addr → Prop} {H H' : Hp} {p : Addr} {d : D} (s : Sub Z H H') (z : ∀ a, Z' a → Z a ∨ H a = none) (hp : ∀ o, H p = some o → H' p = some o) (r : RepW G Z H d (.ref p)) : RepW G Z' H' d (.ref p) := by
  cases d with
  | lst l => obtain ⟨a, vs, e, t, r⟩ := r; cases e; exact ⟨_, vs, rfl, hp _ t, r.mono s z⟩
  | dct ks l => obtain ⟨a, vs, e, t, k, r⟩ := r; cases e; exact ⟨_, vs, rfl, hp _ t, k, r.mono s z⟩
  | obj c ks l => obtain ⟨a, dx, vs, e, t, k, r⟩ := r; cases e; exact ⟨_, dx, vs, rfl, hp _ t, k, r.mono s z⟩
  | _ => exact Rep.mono s z r
theorem map_none_get {ρ : DEnv} {k : Nat} {x : Slot} (h : (ρ.map fun _ => (none : Option Slot))[k]? = some (some x)) : False := by
  rw [List.getElem?_map] at h
  obtain ⟨_, _, e⟩ := Option.map_eq_some_iff.mp h
  cases e
theorem SR.wiped {Y : Cy} {O : Addr → Prop} {ρ : DEnv} {σ : L2.St} {H H' : Hp} {α : Nat → Addr} (s : SRa Y O α ρ σ H) (hz : ∀ b, H b ≠ none → H' b ≠ none) : SR Y (fun _ => False) (ρ.map fun _ => none) σ H' :=
  ⟨α, ⟨⟨s.len.1, by rw [List.length_map]; exact s.len.2⟩, fun i d e => (map_none_get e).elim, fun i d e => (map_none_get e).elim, fun i d e => (map_none_get e).elim, fun i d e => (map_none_get e).elim,
    fun i j ⟨d, h⟩ => by rcases h with h | h | h <;> exact (map_none_get h).elim, fun a => ⟨False.elim, fun ⟨i, ⟨d, h⟩, _⟩ => by rcases h with h | h | h <;> exact (map_none_get h).elim⟩, fun a z => hz a (s.zt a z), fun a h => h.elim, fun i e => (map_none_get e).elim⟩⟩
section
variable {Y : Cy} {O : Addr → Prop} {ρ : DEnv} {σ : L2.St} {H : Hp} {α : Nat → Addr} {i : Nat} {s g0 g1 : D}
theorem gcall_of {N : Ends} {den : GD} {ds : List D} {us : List V} (sr : SRa Y O α ρ σ H) (hs : ρ[i]? = some (some (.slf s))) (h12 : ρ[(12 : Nat)]? = some (some (.gho g0))) (h13 : ρ[(13 : Nat)]? = some (some (.gho g1))) (hok : okG s = true) (r : RepL Y.G (Zo Y.Ze O) H ds us)
    (q : SPost Y O H N (match den s g0 g1 ds with
      | .ok r => .ok (.nx (((ρ.set 12 (some (.gho r.2.2.1))).set 13 (some (.gho r.2.2.2))).set i (some (.slf r.2.1))))
      | .ex e => .ok (.xx e (ρ.map fun _ => none))
      | .no => .no)) : dspG Y.G den (.ref Y.sa :: us) H (fun _ H' => N.nx σ H') (WE Y.E σ) := by
  obtain ⟨ei, ea, c, ks, l, dx, vs, rfl, hH, hlen, rl⟩ := sr.slf i s hs
  rw [ea] at ei hH
  have oi : isOwn ρ i := ⟨_, .inr (.inl hs)⟩
  have o12 : isOwn ρ 12 := ⟨_, .inr (.inr h12)⟩
  have o13 : isOwn ρ 13 := ⟨_, .inr (.inr h13)⟩
  have i12 : i ≠ 12 := fun z => by rw [z, h12] at hs; cases hs
  have i13 : i ≠ 13 := fun z => by rw [z, h13] at hs; cases hs
  have Oa : O Y.sa := (sr.oeq _).mpr ⟨i, oi, ea⟩
  have O0 : O (α 12) := (sr.oeq _).mpr ⟨12, o12, rfl⟩
  have O1 : O (α 13) := (sr.oeq _).mpr ⟨13, o13, rfl⟩
  have d0 : Y.sa ≠ α 12 := fun z => i12 (sr.inj i 12 oi o12 (ea.trans z))
  have d1 : Y.sa ≠ α 13 := fun z => i13 (sr.inj i 13 oi o13 (ea.trans z))
  have d2 : α 12 ≠ α 13 := fun z => by have := sr.inj 12 13 o12 o13 z; cases this
  have zt : ∀ b, Zo Y.Ze O b → H b ≠ none := fun b z => z.elim (sr.zt b) (sr.ot b)
  obtain ⟨r0, n0⟩ := sr.gho 12 g0 h12
  obtain ⟨r1, n1⟩ := sr.gho 13 g1 h13
  refine ⟨Zo Y.Ze O, Y.sa, _, g0, g1, us, ds, α 12, α 13, rfl, ⟨.inr Oa, .inr O0, .inr O1⟩, zt, ⟨⟨d0, d1, d2⟩, ⟨r0, r1⟩, c, ks, l, dx, vs, rfl, hH, hlen, GL_of hok rl⟩, r, ?_⟩
  cases ed : den (.obj c ks l) g0 g1 ds with
  | no => rw [ed] at q; exact q.elim
  | ex e =>
    rw [ed] at q
    intro cc od H' fr xr
    refine q (fun _ => False) σ H' cc od ⟨fun b o n e => fr.1 b o (fun z => n (z ▸ Oa)) (fun z => n (z ▸ O0)) (fun z => n (z ▸ O1)) e, fun b z => z.elim⟩ (SR.wiped sr fr.2) ?_
    exact ExRep.weak (fun b z => z.elim .inl False.elim) xr
  | ok rr =>
    rw [ed] at q
    obtain ⟨d', s', a', b'⟩ := rr
    intro v H' γ0 γ1 fr w0 w1 nn ga rv
    obtain ⟨⟨e0, e1, e2⟩, ⟨ra, rb⟩, c', ks', l', dx', vs', es, hH', hlen', gl⟩ := ga
    simp only at es ra rb
    subst es
    have zz : ∀ b, Zo Y.Ze (fun b => (O b ∧ b ≠ α 12 ∧ b ≠ α 13) ∨ b = γ0 ∨ b = γ1) b → Zo Y.Ze O b ∨ H b = none := fun b z => by
      rcases z with z | z | rfl | rfl
      · exact .inl (.inl z)
      · exact .inl (.inr z.1)
      · rcases w0 with h | h | h
        · exact .inl (.inr (h ▸ O0))
        · exact .inl (.inr (h ▸ O1))
        · exact .inr h
      · rcases w1 with h | h | h
        · exact .inl (.inr (h ▸ O0))
        · exact .inl (.inr (h ▸ O1))
        · exact .inr h
    have zg : ∀ b, Zo Y.Ze (fun b => (O b ∧ b ≠ α 12 ∧ b ≠ α 13) ∨ b = γ0 ∨ b = γ1) b → Zg (Zo Y.Ze O) γ0 γ1 b := fun b z => by
      rcases z with z | z | z | z
      · exact .inl (.inl z)
      · exact .inl (.inr z.1)
      · exact .inr (.inl z)
      · exact .inr (.inr z)
    have sb : Sub (Zo Y.Ze O) H H' := fun b o n e => fr.1 b o (fun z => n (.inr (z ▸ Oa))) (fun z => n (.inr (z ▸ O0))) (fun z => n (.inr (z ▸ O1))) e
    have l12 : 12 < ρ.length := (List.getElem?_eq_some_iff.mp h12).1
    have l13 : 13 < ρ.length := (List.getElem?_eq_some_iff.mp h13).1
    have li : i < ρ.length := (List.getElem?_eq_some_iff.mp hs).1
    generalize hρ : (((ρ.set 12 (some (.gho a'))).set 13 (some (.gho b'))).set i (some (.slf (.obj c' ks' l')))) = ρ'
    have gi : ρ'[i]? = some (some (.slf (.obj c' ks' l'))) := by rw [← hρ]; exact List.getElem?_set_self (by rw [List.length_set, List.length_set]; exact li)
    have g12 : ρ'[(12 : Nat)]? = some (some (.gho a')) := by rw [← hρ, List.getElem?_set_ne i12, List.getElem?_set_ne (by decide), List.getElem?_set_self l12]
    have g13 : ρ'[(13 : Nat)]? = some (some (.gho b')) := by rw [← hρ, List.getElem?_set_ne i13, List.getElem?_set_self (by rw [List.length_set]; exact l13)]
    have go : ∀ k, k ≠ i → k ≠ 12 → k ≠ 13 → ρ'[k]? = ρ[k]? := fun k h1 h2 h3 => by rw [← hρ, List.getElem?_set_ne (Ne.symm h1), List.getElem?_set_ne (Ne.symm h3), List.getElem?_set_ne (Ne.symm h2)]
    have cs : ∀ k, k = i ∨ k = 12 ∨ k = 13 ∨ (k ≠ i ∧ k ≠ 12 ∧ k ≠ 13) := fun k => by
      by_cases h1 : k = i
      · exact .inl h1
      · by_cases h2 : k = 12
        · exact .inr (.inl h2)
        · by_cases h3 : k = 13
          · exact .inr (.inr (.inl h3))
          · exact .inr (.inr (.inr ⟨h1, h2, h3⟩))
    have ow : ∀ k, isOwn ρ' k ↔ isOwn ρ k := fun k => by
      rcases cs k with rfl | rfl | rfl | ⟨h1, h2, h3⟩
      · exact ⟨fun _ => oi, fun _ => ⟨_, .inr (.inl gi)⟩⟩
      · exact ⟨fun _ => o12, fun _ => ⟨_, .inr (.inr g12)⟩⟩
      · exact ⟨fun _ => o13, fun _ => ⟨_, .inr (.inr g13)⟩⟩
      · unfold isOwn
        rw [go k h1 h2 h3]
    have af : ∀ k, isOwn ρ k → k ≠ 12 → k ≠ 13 → α k ≠ γ0 ∧ α k ≠ γ1 := fun k hk h2 h3 => by
      have nk : H (α k) ≠ none := sr.ot _ ((sr.oeq _).mpr ⟨k, hk, rfl⟩)
      refine ⟨fun z => ?_, fun z => ?_⟩
      · rcases w0 with h | h | h
        · exact h2 (sr.inj k 12 hk o12 (z.trans h))
        · exact h3 (sr.inj k 13 hk o13 (z.trans h))
        · rw [← z] at h; exact nk h
      · rcases w1 with h | h | h
        · exact h2 (sr.inj k 12 hk o12 (z.trans h))
        · exact h3 (sr.inj k 13 hk o13 (z.trans h))
        · rw [← z] at h; exact nk h
    have a12 : (fun k => if k = 12 then γ0 else if k = 13 then γ1 else α k) 12 = γ0 := rfl
    have a13 : (fun k => if k = 12 then γ0 else if k = 13 then γ1 else α k) 13 = γ1 := rfl
    have ao : ∀ k, k ≠ 12 → k ≠ 13 → (if k = 12 then γ0 else if k = 13 then γ1 else α k) = α k := fun k h2 h3 => by rw [if_neg h2, if_neg h3]
    have stay : ∀ k, isOwn ρ k → k ≠ i → k ≠ 12 → k ≠ 13 → ∀ o, H (α k) = some o → H' (α k) = some o := fun k hk h1 h2 h3 o e =>
      fr.1 _ o (fun z => h1 (sr.inj k i hk oi (z.trans ea.symm))) (fun z => h2 (sr.inj k 12 hk o12 z)) (fun z => h3 (sr.inj k 13 hk o13 z)) e
    refine q (fun b => (O b ∧ b ≠ α 12 ∧ b ≠ α 13) ∨ b = γ0 ∨ b = γ1) σ H' ⟨fun b o n e => fr.1 b o (fun z => n (z ▸ Oa)) (fun z => n (z ▸ O0)) (fun z => n (z ▸ O1)) e, fun b z => by
      rcases z with z | rfl | rfl
      · exact .inl z.1
      · rcases w0 with h | h | h
        · exact .inl (h ▸ O0)
        · exact .inl (h ▸ O1)
        · exact .inr h
      · rcases w1 with h | h | h
        · exact .inl (h ▸ O0)
        · exact .inl (h ▸ O1)
        · exact .inr h⟩ ⟨fun k => if k = 12 then γ0 else if k = 13 then γ1 else α k, ?_⟩
    simp only [hρ]
    refine ⟨⟨sr.len.1, by rw [← hρ, List.length_set, List.length_set, List.length_set]; exact sr.len.2⟩, fun k d e => ?_, fun k d e => ?_, fun k d e => ?_, fun k d e => ?_, fun k m hk hm e => ?_, fun b => ?_, fun b z => fr.2 b (sr.zt b z), fun b z => ?_, fun k e => ?_⟩
    · rcases cs k with rfl | rfl | rfl | ⟨h1, h2, h3⟩
      · rw [gi] at e; cases e
      · rw [g12] at e; cases e
      · rw [g13] at e; cases e
      · rw [go k h1 h2 h3] at e
        obtain ⟨v, e1, rv⟩ := sr.val k d e
        exact ⟨v, e1, rv.mono sb zz⟩
    · rcases cs k with rfl | rfl | rfl | ⟨h1, h2, h3⟩
      · rw [gi] at e; cases e
      · rw [g12] at e; cases e
      · rw [g13] at e; cases e
      · rw [go k h1 h2 h3] at e
        obtain ⟨e1, n, rv⟩ := sr.own k d e
        rw [ao k h2 h3]
        exact ⟨e1, n, RepW.sub sb zz (stay k ⟨d, .inl e⟩ h1 h2 h3) rv⟩
    · rcases cs k with rfl | rfl | rfl | ⟨h1, h2, h3⟩
      · rw [gi] at e
        cases e
        rw [ao k i12 i13]
        refine ⟨by rw [ea]; exact ei, ea, c', ks', l', dx', vs', rfl, by rw [ea]; exact hH', hlen', of_GL zg a12 a13 ⟨_, g12⟩ ⟨_, g13⟩ gl⟩
      · rw [g12] at e; cases e
      · rw [g13] at e; cases e
      · rw [go k h1 h2 h3] at e
        obtain ⟨_, e2, _⟩ := sr.slf k d e
        exact absurd (sr.inj k i ⟨d, .inr (.inl e)⟩ oi (e2.trans ea.symm)) h1
    · rcases cs k with rfl | rfl | rfl | ⟨h1, h2, h3⟩
      · rw [gi] at e; cases e
      · rw [g12] at e
        cases e
        exact ⟨RepW.weak zg ra, n0⟩
      · rw [g13] at e
        cases e
        exact ⟨RepW.weak zg rb, n1⟩
      · rw [go k h1 h2 h3] at e
        obtain ⟨rv, n⟩ := sr.gho k d e
        rw [ao k h2 h3]
        exact ⟨RepW.sub sb zz (stay k ⟨d, .inr (.inr e)⟩ h1 h2 h3) rv, n⟩
    · have hk := (ow k).mp hk
      have hm := (ow m).mp hm
      have e : (if k = 12 then γ0 else if k = 13 then γ1 else α k) = if m = 12 then γ0 else if m = 13 then γ1 else α m := e
      by_cases k2 : k = 12
      · subst k2
        by_cases m2 : m = 12
        · exact m2.symm
        · by_cases m3 : m = 13
          · subst m3; exact absurd e e2
          · rw [ao m m2 m3] at e; exact absurd e.symm (af m hm m2 m3).1
      · by_cases k3 : k = 13
        · subst k3
          by_cases m2 : m = 12
          · subst m2; exact absurd e.symm e2
          · by_cases m3 : m = 13
            · exact m3.symm
            · rw [ao m m2 m3] at e; exact absurd e.symm (af m hm m2 m3).2
        · rw [ao k k2 k3] at e
          by_cases m2 : m = 12
          · subst m2; exact absurd e (af k hk k2 k3).1
          · by_cases m3 : m = 13
            · subst m3; exact absurd e (af k hk k2 k3).2
            · rw [ao m m2 m3] at e; exact sr.inj k m hk hm e
    · refine ⟨fun h => ?_, fun ⟨k, hk, e⟩ => ?_⟩
      · rcases h with ⟨h, n12, n13⟩ | rfl | rfl
        · obtain ⟨k, hk, e⟩ := (sr.oeq b).mp h
          exact ⟨k, (ow k).mpr hk, by rw [ao k (fun z => n12 (by rw [← e, z])) (fun z => n13 (by rw [← e, z]))]; exact e⟩
        · exact ⟨12, (ow 12).mpr o12, rfl⟩
        · exact ⟨13, (ow 13).mpr o13, rfl⟩
      · have hk := (ow k).mp hk
        have e : (if k = 12 then γ0 else if k = 13 then γ1 else α k) = b := e
        by_cases k2 : k = 12
        · subst k2; exact .inr (.inl e.symm)
        · by_cases k3 : k = 13
          · subst k3; exact .inr (.inr e.symm)
          · rw [ao k k2 k3] at e
            exact .inl ⟨(sr.oeq b).mpr ⟨k, hk, e⟩, fun z => k2 (sr.inj k 12 hk o12 (e.trans z)), fun z => k3 (sr.inj k 13 hk o13 (e.trans z))⟩
    · rcases z with z | rfl | rfl
      · exact fr.2 b (sr.ot b z.1)
      · exact nn.1
      · exact nn.2
    · rcases cs k with rfl | rfl | rfl | ⟨h1, h2, h3⟩
      · rw [gi] at e; cases e
      · rw [g12] at e; cases e
      · rw [g13] at e; cases e
      · rw [go k h1 h2 h3] at e
        exact sr.ptr k e
end
end Tw

set_option maxHeartbeats 2000000
namespace Tw
open PySem PySem.Spec L2
open PyProof.Rows hiding St
section
variable {X : Cx} {Y : Cy} {a e : Expr} {es : List Expr} {fs : DA} {pos p apos cpos : Pos} {x m : Str} {i j : Nat} {c : String} {den : GD}
theorem ds_gcall {pl : Sem Bool} (M : Gk X.prog X.w X.K X.mg X.base Y.G c m den j) (hj : j ≤ Y.lv) (hN : X.N[i]? = some x) (ha : PDA X Y (e :: es) fs) (hv : Vis X.env.scope x := by first | exact Or.inl rfl | exact Or.inr (Or.inl rfl) | exact Or.inr (Or.inr rfl))
    (hd : (x == ("__debug__" : Str)) = false := by decide) (hcd : (x == ("__classdict__" : Str)) = false := by decide)
    (hst : starEach (e :: es) X.env = (false, eval e X.env) :: starEach es X.env := by rfl) (hpl : (backTo cpos (starEach es X.env)).any (·.1) = false := by rfl)
    (ht : eval (.Call (.Attribute (.Name x p) m apos) (e :: es) [] cpos) X.env = (do
      let ov ← eval (.Name x p) X.env
      standAt apos.atName
      let (f, first) ← holding [ov] (getMethod ov m pl)
      callWith cpos f first (backTo cpos (starEach (e :: es) X.env)) (backToKw cpos (keywordEach [] X.env))) := by rfl)
    (hsw : swapsWith (.Call (.Attribute (.Name x p) m apos) (e :: es) [] cpos) none pos.line X.env = pure false := by rfl) (hca : Y.ca = true := by rfl) :
    PDS X Y (.Expr (.Call (.Attribute (.Name x p) m apos) (e :: es) [] cpos) pos) (sGCallC c i den fs) := fun k => by
  obtain ⟨f, fd, ps, F, hm, hb, hn, hcl⟩ := M
  refine impPS (ps_expr (pe_methD (E := WE Y.E) (pe_var hN hv hd hcd) hcl hm F ((k.room hca).mono hj) hb (fun σ => passAt k.tk σ) (ha k) hst hpl ht) hsw) fun N σ H ⟨O, ρ, s, q⟩ => ?_
  unfold sGCallC at q
  split at q
  rotate_left
  · exact q.elim
  rename_i c' ks' l' hs
  split at q
  rotate_left
  · exact q.elim
  rename_i hc'
  subst hc'
  unfold sGCall at q
  obtain ⟨e1, Oa⟩ := s.sa_of hs
  have s0 := s
  obtain ⟨α, s⟩ := s
  obtain ⟨_, ea, c2, ks, l, dx, vs, es', hH, ⟨hl, hcc, hf⟩, rl⟩ := s.slf i _ hs
  cases es'
  rw [ea] at hH
  refine ⟨.ref Y.sa, e1, Y.sa, dx, fKeys ks' vs, rfl, hH, no_look fun z => hn (hf m z), ⟨O, ρ, s0, ?_⟩⟩
  cases ef : fs ρ with
  | no => rw [ef] at q; exact q.elim
  | ex z => rw [ef] at q; exact fun c od H1 s1 xr => q O σ H1 c od (Stp.same s1) (s0.same s1) xr
  | ok ds =>
    rw [ef] at q
    simp only [R.st_ok] at q
    intro us H1 s1 rs
    split at q
    rotate_left
    · exact q.elim
    rename_i sd hsd
    rw [hs] at hsd
    cases hsd
    split at q
    rotate_left
    · exact q.elim
    rename_i g0 h12
    split at q
    rotate_left
    · exact q.elim
    rename_i g1 h13
    split at q
    rotate_left
    · exact q.elim
    rename_i hok
    exact gcall_of (s.same s1) hs h12 h13 hok rs (SPost.fwd (Stp.same s1) q)
end
/-- the start of a method that is handed the object with its containers -/
def startG (n : Nat) (s g0 g1 : D) (ds : List D) : DEnv := (some (.slf s) :: envD (n - 1) ds) ++ (List.replicate (12 - n) none ++ [some (.gho g0), some (.gho g1)])
theorem startG_get {n : Nat} {s g0 g1 : D} {ds : List D} (hn : 1 ≤ n ∧ n ≤ 12) (hd : ds.length + 1 ≤ n) {k : Nat} {x : Option Slot} (h : (startG n s g0 g1 ds)[k]? = some x) :
    (k = 0 ∧ x = some (.slf s)) ∨ (∃ d, k ≠ 0 ∧ ds[k - 1]? = some d ∧ x = some (.val d)) ∨ x = none ∨ (k = 12 ∧ x = some (.gho g0)) ∨ (k = 13 ∧ x = some (.gho g1)) := by
  unfold startG at h
  have hl : (some (Slot.slf s) :: envD (n - 1) ds).length = n := by rw [List.length_cons, envD_len (by omega)]; omega
  by_cases hk : k < n
  · rw [List.getElem?_append_left (by omega)] at h
    cases k with
    | zero => exact .inl ⟨rfl, (Option.some.inj h).symm⟩
    | succ k =>
      rcases envD_get (i := k) (by simpa using h) with ⟨d, hd, e⟩ | e
      · exact .inr (.inl ⟨d, by omega, by simpa using hd, e⟩)
      · exact .inr (.inr (.inl e))
  · rw [List.getElem?_append_right (by omega), hl] at h
    by_cases hk2 : k < 12
    · rw [List.getElem?_append_left (by rw [List.length_replicate]; omega), List.getElem?_replicate] at h
      split at h
      · exact .inr (.inr (.inl (Option.some.inj h).symm))
      · cases h
    · rw [List.getElem?_append_right (by rw [List.length_replicate]; omega), List.length_replicate] at h
      have e : k - n - (12 - n) = k - 12 := by omega
      rw [e] at h
      by_cases h12 : k = 12
      · subst h12; exact .inr (.inr (.inr (.inl ⟨rfl, (Option.some.inj h).symm⟩)))
      · by_cases h13 : k = 13
        · subst h13; exact .inr (.inr (.inr (.inr ⟨rfl, (Option.some.inj h).symm⟩)))
        · exfalso
          obtain ⟨q, hq⟩ : ∃ q, k - 12 = q + 2 := ⟨k - 14, by omega⟩
          rw [hq] at h
          simp at h
theorem startG_at {n : Nat} {s g0 g1 : D} {ds : List D} (hn : 1 ≤ n ∧ n ≤ 12) (hd : ds.length + 1 ≤ n) : (startG n s g0 g1 ds).length = 14 ∧ (startG n s g0 g1 ds)[(0 : Nat)]? = some (some (.slf s)) ∧ (startG n s g0 g1 ds)[(12 : Nat)]? = some (some (.gho g0)) ∧ (startG n s g0 g1 ds)[(13 : Nat)]? = some (some (.gho g1)) := by
  have hl : (some (Slot.slf s) :: envD (n - 1) ds).length = n := by rw [List.length_cons, envD_len (by omega)]; omega
  unfold startG
  refine ⟨by rw [List.length_append, hl, List.length_append, List.length_replicate]; show n + (12 - n + 2) = 14; omega, rfl, ?_, ?_⟩
  · rw [List.getElem?_append_right (by omega), hl, List.getElem?_append_right (by rw [List.length_replicate]; omega), List.length_replicate]
    rw [show 12 - n - (12 - n) = 0 by omega]
    rfl
  · rw [List.getElem?_append_right (by omega), hl, List.getElem?_append_right (by rw [List.length_replicate]; omega), List.length_replicate]
    rw [show 13 - n - (12 - n) = 1 by omega]
    rfl
theorem SR.startG {Y : Cy} {N : List Str} {s g0 g1 : D} {ds : List D} {vs : List V} {H : Hp} {β0 β1 : Addr} (hn : Y.n = N.length) (h12 : 1 ≤ N.length ∧ N.length ≤ 12) (hl : ds.length + 1 ≤ N.length) (zt : ∀ a, Y.Ze a → H a ≠ none) (ga : GAt Y.G Y.Ze H Y.sa s g0 g1 β0 β1) (hz : Y.Ze Y.sa ∧ Y.Ze β0 ∧ Y.Ze β1)
    (r : RepL Y.G Y.Ze H ds vs) : SR Y (fun a => a = Y.sa ∨ a = β0 ∨ a = β1) (Tw.startG N.length s g0 g1 ds) (L2.start N (.ref Y.sa :: vs)) H := by
  obtain ⟨⟨n0, n1, n2⟩, ⟨r0, r1⟩, c, ks, l, dx, us, e1, e2, e3, e4⟩ := ga
  obtain ⟨len, k0, k12, k13⟩ := startG_at (s := s) (g0 := g0) (g1 := g1) h12 hl
  have on : ∀ k, isOwn (Tw.startG N.length s g0 g1 ds) k ↔ (k = 0 ∨ k = 12 ∨ k = 13) := fun k => by
    refine ⟨fun ⟨d, h⟩ => ?_, fun h => ?_⟩
    · rcases h with h | h | h
      all_goals
        rcases startG_get h12 hl h with ⟨e, q⟩ | ⟨d', _, _, q⟩ | q | ⟨e, q⟩ | ⟨e, q⟩
        all_goals first | (cases q; done) | exact .inl e | exact .inr (.inl e) | exact .inr (.inr e)
    · rcases h with rfl | rfl | rfl
      · exact ⟨s, .inr (.inl k0)⟩
      · exact ⟨g0, .inr (.inr k12)⟩
      · exact ⟨g1, .inr (.inr k13)⟩
  have z : ∀ a, Zo Y.Ze (fun a => a = Y.sa ∨ a = β0 ∨ a = β1) a → Y.Ze a := fun a z => by
    rcases z with z | rfl | rfl | rfl
    · exact z
    · exact hz.1
    · exact hz.2.1
    · exact hz.2.2
  refine ⟨fun k => if k = 12 then β0 else if k = 13 then β1 else Y.sa, ⟨by rw [start_len (by rw [List.length_cons, ← r.length]; exact hl), hn], by rw [len, hn]; omega⟩, fun k d e => ?_, fun k d e => ?_, fun k d e => ?_, fun k d e => ?_, fun k m hk hm e => ?_, fun a => ?_, zt, fun a h => ?_, fun k e => by rcases startG_get h12 hl e with ⟨ek, q⟩ | ⟨d', _, _, q⟩ | q | ⟨ek, q⟩ | ⟨ek, q⟩ <;> cases q⟩
  · rcases startG_get h12 hl e with ⟨ek, q⟩ | ⟨d', k0', hd, q⟩ | q | ⟨ek, q⟩ | ⟨ek, q⟩
    · cases q
    · cases q
      obtain ⟨v, hv, rv⟩ := r.get hd
      obtain ⟨k', rfl⟩ : ∃ k', k = k' + 1 := ⟨k - 1, by omega⟩
      exact ⟨v, start_get (by simpa using hv), rv.weak z⟩
    · cases q
    · cases q
    · cases q
  · rcases startG_get h12 hl e with ⟨ek, q⟩ | ⟨d', k0', hd, q⟩ | q | ⟨ek, q⟩ | ⟨ek, q⟩ <;> cases q
  · rcases startG_get h12 hl e with ⟨ek, q⟩ | ⟨d', k0', hd, q⟩ | q | ⟨ek, q⟩ | ⟨ek, q⟩
    · cases q
      subst ek
      refine ⟨start_get rfl, rfl, c, ks, l, dx, us, e1, e2, e3, of_GL z rfl rfl ⟨_, k12⟩ ⟨_, k13⟩ e4⟩
    all_goals cases q
  · rcases startG_get h12 hl e with ⟨ek, q⟩ | ⟨d', k0', hd, q⟩ | q | ⟨ek, q⟩ | ⟨ek, q⟩
    · cases q
    · cases q
    · cases q
    · cases q
      subst ek
      exact ⟨RepW.weak z r0, by rw [hn]; exact h12.2⟩
    · cases q
      subst ek
      exact ⟨RepW.weak z r1, by rw [hn]; omega⟩
  · have e : (if k = 12 then β0 else if k = 13 then β1 else Y.sa) = if m = 12 then β0 else if m = 13 then β1 else Y.sa := e
    rcases (on k).mp hk with rfl | rfl | rfl <;> rcases (on m).mp hm with rfl | rfl | rfl
    · rfl
    · exact absurd e n0
    · exact absurd e n1
    · exact absurd e.symm n0
    · rfl
    · exact absurd e n2
    · exact absurd e.symm n1
    · exact absurd e.symm n2
    · rfl
  · refine ⟨fun h => ?_, fun ⟨k, hk, e⟩ => ?_⟩
    · rcases h with rfl | rfl | rfl
      · exact ⟨0, (on 0).mpr (.inl rfl), rfl⟩
      · exact ⟨12, (on 12).mpr (.inr (.inl rfl)), rfl⟩
      · exact ⟨13, (on 13).mpr (.inr (.inr rfl)), rfl⟩
    · have e : (if k = 12 then β0 else if k = 13 then β1 else Y.sa) = a := e
      rcases (on k).mp hk with rfl | rfl | rfl
      · exact .inl e.symm
      · exact .inr (.inl e.symm)
      · exact .inr (.inr e.symm)
  · rcases h with rfl | rfl | rfl
    · exact zt _ hz.1
    · exact zt _ hz.2.1
    · exact zt _ hz.2.2
theorem outG_ok {ρ : DEnv} {d : D} {r : D × D × D × D} (h : outG ρ d = .ok r) : r.1 = d ∧ ρ[(0 : Nat)]? = some (some (.slf r.2.1)) ∧ ρ[(12 : Nat)]? = some (some (.gho r.2.2.1)) ∧ ρ[(13 : Nat)]? = some (some (.gho r.2.2.2)) ∧ okG r.2.1 = true := by
  unfold outG at h
  split at h
  rotate_left
  · cases h
  rename_i s hs
  split at h
  rotate_left
  · cases h
  rename_i a ha
  split at h
  rotate_left
  · cases h
  rename_i b hb
  split at h
  rotate_left
  · cases h
  rename_i hok
  cases h
  exact ⟨rfl, hs, ha, hb, hok⟩
theorem outG_no {ρ : DEnv} {d : D} {e : Ex} (h : outG ρ d = .ex e) : False := by
  unfold outG at h
  split at h
  rotate_left
  · cases h
  split at h
  rotate_left
  · cases h
  split at h
  rotate_left
  · cases h
  split at h <;> cases h
section
variable {P : Program} {w : World} {K : PySem.W.Frag} {mg : Str → Option Value} {base : Heap} {x qual : Str} {params : Arguments} {body : List Stmt} {scope : Scope} {dvs : List V} {kws : List (Str × V)} {f : Addr} {fd : FuncData} {N ps : List Str} {k : Nat} {G : Gc} {b : DS}
/-- where the state's own addresses lie at such a def's end -/
theorem fin_GAt {Y : Cy} {O' : Addr → Prop} {ρ : DEnv} {σ' : L2.St} {H' : Hp} {d : D} {r : D × D × D × D} (s' : SR Y O' ρ σ' H') (h : outG ρ d = .ok r) : ∃ γ0 γ1, O' Y.sa ∧ O' γ0 ∧ O' γ1 ∧ (H' γ0 ≠ none ∧ H' γ1 ≠ none) ∧ GAt Y.G (Zo Y.Ze O') H' Y.sa r.2.1 r.2.2.1 r.2.2.2 γ0 γ1 := by
  obtain ⟨_, h0, h12, h13, hok⟩ := outG_ok h
  obtain ⟨α, s⟩ := s'
  obtain ⟨_, ea, c, ks, l, dx, vs, es, hH, hlen, rl⟩ := s.slf 0 _ h0
  have o0 : isOwn ρ 0 := ⟨_, .inr (.inl h0)⟩
  have o12 : isOwn ρ 12 := ⟨_, .inr (.inr h12)⟩
  have o13 : isOwn ρ 13 := ⟨_, .inr (.inr h13)⟩
  have Oa : O' Y.sa := (s.oeq _).mpr ⟨0, o0, ea⟩
  have O0 : O' (α 12) := (s.oeq _).mpr ⟨12, o12, rfl⟩
  have O1 : O' (α 13) := (s.oeq _).mpr ⟨13, o13, rfl⟩
  rw [ea] at hH
  refine ⟨α 12, α 13, Oa, O0, O1, ⟨s.ot _ O0, s.ot _ O1⟩, ⟨fun z => ?_, fun z => ?_, fun z => ?_⟩, ⟨(s.gho 12 _ h12).1, (s.gho 13 _ h13).1⟩, c, ks, l, dx, vs, es, hH, hlen, GL_of (by rw [es] at hok; exact hok) rl⟩
  · cases s.inj 0 12 o0 o12 (ea.trans z)
  · cases s.inj 0 13 o0 o13 (ea.trans z)
  · cases s.inj 12 13 o12 o13 z
theorem GL.weak {G : Gc} {Z Z' : Addr → Prop} {H : Hp} {β0 β1 : Addr} (z : ∀ a, Z' a → Z a) : ∀ {l : List D} {vs : List V}, GL G Z β0 β1 H l vs → GL G Z' β0 β1 H l vs
  | [], vs, h => h
  | d :: l, vs, h => by
    obtain ⟨v, r, e, k1, k2⟩ := h
    refine ⟨v, r, e, ?_, GL.weak z k2⟩
    cases d with
    | gst j => exact k1
    | _ => exact Rep.weak z k1
theorem GAt.weak {G : Gc} {Z Z' : Addr → Prop} {H : Hp} {a : Addr} {s g0 g1 : D} {β0 β1 : Addr} (z : ∀ a, Z' a → Z a) (h : GAt G Z H a s g0 g1 β0 β1) : GAt G Z' H a s g0 g1 β0 β1 := by
  obtain ⟨n, ⟨r0, r1⟩, c, ks, l, dx, us, e1, e2, e3, e4⟩ := h
  exact ⟨n, ⟨RepW.weak z r0, RepW.weak z r1⟩, c, ks, l, dx, us, e1, e2, e3, GL.weak z e4⟩
theorem fn_initG (F : FunD K x qual params body scope dvs kws f fd) (hK : G.K = K) (S : FnScope N ps scope) (hl : ps.length ≤ N.length)
    (hb : ∀ (cdv : Value) (A : Around) (outer : List Env) (s : Shared) (H : Hp) (E : XK) (Ze : Addr → Prop) (sa : Addr), PDSs (cxOf (L2.CX P w) P w K mg base N qual scope f cdv A outer s H E) (cyOf G Ze sa E k N) body b) :
    FnOk P w K mg base (L2.CX P w) (k + 1) f fd ps (dspG G (initG N.length ps.length b)) := by
  have hlen : ∀ s g0 g1 ds, (∀ (H : Hp) (Q : VK) (E : XK) (Ze : Addr → Prop) (a β0 β1 : Addr), GPoX G Ze a β0 β1 H Q E (initG N.length ps.length b s g0 g1 ds) → ds.length + 1 = ps.length ∧ N.length ≤ 12 ∧ okG s = true) := fun s g0 g1 ds H Q E Ze a β0 β1 q => by
    unfold initG at q
    split at q
    · assumption
    · exact q.elim
  refine F.ok S (fun vs H Q E h => ?_) fun cdv A outer s H vs Q E hr h => ?_
  · obtain ⟨Ze, a, s, g0, g1, us, ds, β0, β1, rfl, _, _, _, r, q⟩ := h
    rw [List.length_cons, ← r.length]
    exact (hlen s g0 g1 ds H Q E Ze a β0 β1 q).1
  · obtain ⟨Ze, a, so, g0, g1, us, ds, β0, β1, rfl, hz, zt, ga, r, q⟩ := h
    obtain ⟨hd, h12, hok⟩ := hlen so g0 g1 ds H Q E Ze a β0 β1 q
    refine ⟨_, hb cdv A outer s H E Ze a (lk_of hK S hr), _, _, SR.startG (Y := cyOf G Ze a E k N) (β0 := β0) (β1 := β1) rfl ⟨by omega, h12⟩ (by omega) zt ga hz r, ?_⟩
    unfold initG at q
    rw [if_pos ⟨hd, h12, hok⟩] at q
    change GPoX G Ze a β0 β1 H Q E (endG (b (Tw.startG N.length so g0 g1 ds))) at q
    have fr : ∀ {O' : Addr → Prop} {ρ : DEnv} {σ' : L2.St} {H' : Hp}, Stp (fun b => b = a ∨ b = β0 ∨ b = β1) H O' H' → SR (cyOf G Ze a E k N) O' ρ σ' H' → GFr a β0 β1 H H' := fun st s' => ⟨fun b o n0 n1 n2 e => st.1 b o (fun z => z.elim n0 fun z => z.elim n1 n2) e, fun b hn => by
      by_cases hb : b = a ∨ b = β0 ∨ b = β1
      · refine s'.zt b (.inl ?_)
        rcases hb with rfl | rfl | rfl
        · exact hz.1
        · exact hz.2.1
        · exact hz.2.2
      · obtain ⟨o, ho⟩ := Option.ne_none_iff_exists'.mp hn
        rw [st.1 b o hb ho]
        exact fun z => by cases z⟩
    have zw : ∀ {O' : Addr → Prop}, ∀ a, Ze a → Zo Ze O' a := fun a z => .inl z
    have fin : ∀ {O' : Addr → Prop} {σ' : L2.St} {H' : Hp} {d : D} {ρ : DEnv} {v : V}, GPoX G Ze a β0 β1 H Q E (outG ρ d) → Stp (fun b => b = a ∨ b = β0 ∨ b = β1) H O' H' → SR (cyOf G Ze a E k N) O' ρ σ' H' → Rep G (Zo Ze O') H' d v → Q v H' := by
      intro O' σ' H' d ρ v q st s' rv
      cases eo : outG ρ d with
      | no => rw [eo] at q; exact q.elim
      | ex z => exact (outG_no eo).elim
      | ok rr =>
        rw [eo] at q
        obtain ⟨γ0, γ1, Oa, O0, O1, nn, g⟩ := fin_GAt s' eo
        have w : ∀ γ, O' γ → γ ≠ a → (γ = β0 ∨ γ = β1 ∨ H γ = none) := fun γ h ne => by
          rcases st.2 γ h with (z | z | z) | z
          · exact absurd z ne
          · exact .inl z
          · exact .inr (.inl z)
          · exact .inr (.inr z)
        have zg : ∀ b, Zg Ze γ0 γ1 b → Zo Ze O' b := fun b z => by
          rcases z with z | rfl | rfl
          · exact .inl z
          · exact .inr O0
          · exact .inr O1
        refine q v H' γ0 γ1 (fr st s') (w γ0 O0 g.1.1.symm) (w γ1 O1 g.1.2.1.symm) nn (g.weak zg) ?_
        rw [(outG_ok eo).1]
        exact Rep.weak zg rv
    cases eb : b (Tw.startG N.length so g0 g1 ds) with
    | no => rw [eb] at q; exact q.elim
    | ex e => rw [eb] at q; exact q.elim
    | ok o =>
      rw [eb] at q
      show SPost _ _ _ _ (.ok o)
      cases o with
      | nx ρ => exact fun O' σ' H' st s' => fin q st s' rfl
      | bk ρ => exact q.elim
      | ct ρ => exact q.elim
      | rt d ρ => exact fun O' σ' H' v st s' rv => fin q st s' rv
      | xx e ρ => exact fun O' σ' H' c od st s' xr => q c od H' (fr st s') (xr.weak zw)
theorem SR.pad {Y : Cy} {O : Addr → Prop} {ρ : DEnv} {σ : L2.St} {H : Hp} (m : Nat) (s : SR Y O ρ σ H) : SR Y O (ρ ++ List.replicate m none) σ H := by
  obtain ⟨α, s⟩ := s
  have g : ∀ {k : Nat} {x : Slot}, (ρ ++ List.replicate m none)[k]? = some (some x) → ρ[k]? = some (some x) := fun {k x} h => by
    by_cases hk : k < ρ.length
    · rw [List.getElem?_append_left hk] at h; exact h
    · rw [List.getElem?_append_right (by omega), List.getElem?_replicate] at h
      split at h <;> cases h
  have g' : ∀ {k : Nat} {x : Slot}, ρ[k]? = some (some x) → (ρ ++ List.replicate m none)[k]? = some (some x) := fun {k x} h => by
    rw [List.getElem?_append_left (List.getElem?_eq_some_iff.mp h).1]; exact h
  have on : ∀ k, isOwn (ρ ++ List.replicate m none) k ↔ isOwn ρ k := fun k => ⟨fun ⟨d, h⟩ => ⟨d, h.imp g fun h => h.imp g g⟩, fun ⟨d, h⟩ => ⟨d, h.imp g' fun h => h.imp g' g'⟩⟩
  have gl : ∀ {l : List D} {vs : List V}, RepGL Y.G (Zo Y.Ze O) α ρ H l vs → RepGL Y.G (Zo Y.Ze O) α (ρ ++ List.replicate m none) H l vs := fun r => RepGL.weak (fun _ z => z) (fun j d h => ⟨d, g' h⟩) r
  refine ⟨α, ⟨s.len.1, by rw [List.length_append]; exact Nat.le_trans s.len.2 (Nat.le_add_right _ _)⟩, fun i d e => s.val i d (g e), fun i d e => s.own i d (g e), fun i d e => ?_, fun i d e => s.gho i d (g e), fun i j hi hj e => s.inj i j ((on i).mp hi) ((on j).mp hj) e, fun a => ?_, s.zt, s.ot, fun i e => s.ptr i (g e)⟩
  · obtain ⟨e1, e2, c, ks, l, dx, vs, e3, e4, e5, r⟩ := s.slf i d (g e)
    exact ⟨e1, e2, c, ks, l, dx, vs, e3, e4, e5, gl r⟩
  · rw [s.oeq]
    exact ⟨fun ⟨i, h, e⟩ => ⟨i, (on i).mpr h, e⟩, fun ⟨i, h, e⟩ => ⟨i, (on i).mp h, e⟩⟩
theorem unG_rep {G : Gc} {Z Z' : Addr → Prop} {H : Hp} {β0 β1 : Addr} {g0 g1 : D} (z : ∀ a, Z' a → Z a) (n0 : ¬ Z' β0) (n1 : ¬ Z' β1) (r0 : RepW G Z H g0 (.ref β0)) (r1 : RepW G Z H g1 (.ref β1)) : ∀ {l : List D} {vs : List V}, GL G Z β0 β1 H l vs → RepL G Z' H (l.map (unG g0 g1)) vs
  | [], vs, h => h
  | d :: l, vs, h => by
    obtain ⟨v, r, e, k1, k2⟩ := h
    have one : ∀ {g : D} {β : Addr}, ¬ Z' β → RepW G Z H g (.ref β) → Rep G Z' H g (.ref β) := fun {g β} nz rg => by
      have rg := RepW.weak z rg
      cases g with
      | lst l => obtain ⟨a, vs, e, t, r⟩ := rg; cases e; exact ⟨_, vs, rfl, nz, t, r⟩
      | dct ks l => obtain ⟨a, vs, e, t, k, r⟩ := rg; cases e; exact ⟨_, vs, rfl, nz, t, k, r⟩
      | obj c ks l => obtain ⟨a, dx, vs, e, t, k, r⟩ := rg; cases e; exact ⟨_, dx, vs, rfl, nz, t, k, r⟩
      | _ => exact rg
    refine ⟨v, r, e, ?_, unG_rep z n0 n1 r0 r1 k2⟩
    cases d with
    | gst j =>
      rcases k1 with ⟨rfl, q⟩ | ⟨rfl, q⟩
      · rw [q]; exact one n0 r0
      · rw [q]; exact one n1 r1
    | _ => exact Rep.weak z k1
theorem fn_initQ (F : FunD K x qual params body scope dvs kws f fd) (hK : G.K = K) (S : FnScope N ps scope) (hl : ps.length ≤ N.length)
    (hb : ∀ (cdv : Value) (A : Around) (outer : List Env) (s : Shared) (H : Hp) (E : XK) (Ze : Addr → Prop) (sa : Addr), PDSs (cxOf (L2.CX P w) P w K mg base N qual scope f cdv A outer s H E) (cyOf G Ze sa E k N) body b) :
    FnOk P w K mg base (L2.CX P w) (k + 1) f fd ps (dspM G (initQ N.length ps.length b)) := by
  have hlen : ∀ s ds, (∀ (H : Hp) (Q : VK) (E : XK) (Ze : Addr → Prop) (a : Addr), IPost G Ze a H Q E (initQ N.length ps.length b s ds) → ds.length + 1 = ps.length ∧ N.length ≤ 12) := fun s ds H Q E Ze a q => by
    unfold initQ at q
    split at q
    · assumption
    · exact q.elim
  refine F.ok S (fun vs H Q E h => ?_) fun cdv A outer s H vs Q E hr h => ?_
  · obtain ⟨Ze, a, s, us, ds, rfl, _, _, _, r, q⟩ := h
    rw [List.length_cons, ← r.length]
    exact (hlen s ds H Q E Ze a q).1
  · obtain ⟨Ze, a, so, us, ds, rfl, hz, zt, ob, r, q⟩ := h
    obtain ⟨hd, h12⟩ := hlen so ds H Q E Ze a q
    refine ⟨_, hb cdv A outer s H E Ze a (lk_of hK S hr), fun b => b = a, (some (.slf so) :: envD (N.length - 1) ds) ++ List.replicate (14 - N.length) none, SR.pad _ (SR.startS (Y := cyOf G Ze a E k N) rfl (by rw [hd]; exact hl) zt ob hz r), ?_⟩
    unfold initQ at q
    rw [if_pos ⟨hd, h12⟩] at q
    have sm : ∀ {O' : Addr → Prop} {H' : Hp}, Stp (fun b => b = a) H O' H' → ∀ b o, b ≠ a → H b = some o → H' b = some o := fun st b o n e => st.1 b o n e
    have zw : ∀ {O' : Addr → Prop}, ∀ a, Ze a → Zo Ze O' a := fun a z => .inl z
    have fin : ∀ {O' : Addr → Prop} {σ' : L2.St} {H' : Hp} {d : D} {ρ : DEnv} {v : V}, IPost G Ze a H Q E (outQ (outG ρ d)) → Stp (fun b => b = a) H O' H' → SR (cyOf G Ze a E k N) O' ρ σ' H' → Rep G Ze H' d v → Q v H' := by
      intro O' σ' H' d ρ v q st s' rv
      cases eo : outG ρ d with
      | no => rw [eo] at q; exact q.elim
      | ex z => exact (outG_no eo).elim
      | ok rr =>
        rw [eo] at q
        obtain ⟨γ0, γ1, Oa, O0, O1, nn, g⟩ := fin_GAt s' eo
        have e1 := (outG_ok eo).1
        obtain ⟨d', s1, a1, b1⟩ := rr
        obtain ⟨⟨n0, n1, n2⟩, ⟨r0, r1⟩, c, ks, l, dx, vs, es, hH, hlen', gl⟩ := g
        have es : s1 = .obj c ks l := es
        subst es
        have nz : ∀ γ, O' γ → γ ≠ a → ¬ Ze γ := fun γ h ne hze => by
          rcases st.2 γ h with z | z
          · exact ne z
          · exact zt γ hze z
        have e1 : d' = d := e1
        subst e1
        refine q v H' (sm st) ⟨c, ks, _, dx, vs, rfl, hH, hlen', ?_⟩ rv
        exact unG_rep (fun b z => zw b z) (nz γ0 O0 n0.symm) (nz γ1 O1 n1.symm) r0 r1 gl
    cases eb : b ((some (.slf so) :: envD (N.length - 1) ds) ++ List.replicate (14 - N.length) none) with
    | no => rw [eb] at q; exact q.elim
    | ex e => rw [eb] at q; exact q.elim
    | ok o =>
      rw [eb] at q
      show SPost _ _ _ _ (.ok o)
      cases o with
      | nx ρ => exact fun O' σ' H' st s' => fin q st s' rfl
      | bk ρ => exact q.elim
      | ct ρ => exact q.elim
      | rt d ρ => exact fun O' σ' H' v st s' rv => fin q st s' (Rep.weak zw rv)
      | xx e ρ => exact fun O' σ' H' c od st s' xr => q c od H' (sm st) (s'.zt a (.inl hz)) (xr.weak zw)
end
end Tw

set_option maxHeartbeats 2000000
namespace Tw
open PySem PySem.Spec L2
open PyProof.Rows hiding St
section
variable {X : Cx} {CX : CXT} {k : Nat} {C p g f : Addr} {mc : Value} {fd : FuncData} {ps : List Str} {sp : Sp} {E : L2.St → XK} {o e : Expr} {es : List Expr} {m x : Str} {pos apos p1 : Pos} {ta : TE} {t : TA} {pl : Sem Bool}
end
section
variable {X : Cx} {Y : Cy} {e : Expr} {es : List Expr} {fs : DA} {pos pos' p p2 apos cpos pc : Pos} {x m xc : Str} {i j : Nat} {c : String} {init : D → List D → R (D × D)} {den : List D → R D}
/-- the object under construction behind another def's changes -/
theorem SRa.reS {O : Addr → Prop} {ρ : DEnv} {σ : L2.St} {H H' : Hp} {α : Nat → Addr} {d d' : D} (s : SRa Y O α ρ σ H) (hi : ρ[i]? = some (some (.slf d))) (sm : ∀ b o, b ≠ Y.sa → H b = some o → H' b = some o) (ob : ObjAt Y.G (Zo Y.Ze O) H' Y.sa d') :
    SRa Y O α (ρ.set i (some (.slf d'))) σ H' := by
  have hl : i < ρ.length := (List.getElem?_eq_some_iff.mp hi).1
  obtain ⟨ei, ea, _⟩ := s.slf i d hi
  have oi : isOwn ρ i := ⟨_, .inr (.inl hi)⟩
  have Oi : O (α i) := (s.oeq _).mpr ⟨i, oi, rfl⟩
  have sub : ∀ j, isOwn (ρ.set i (some (.slf d'))) j ↔ isOwn ρ j := fun j => isOwn_setSlf hi
  have sb : Sub (Zo Y.Ze O) H H' := fun a u n e => sm a u (fun q => n (.inr (by rw [q, ← ea]; exact Oi))) e
  have an : ∀ j, isOwn ρ j → j ≠ i → α j ≠ Y.sa := fun j h n e => n (s.inj j i h oi (e.trans ea.symm))
  have st : ∀ b, H b ≠ none → H' b ≠ none := fun b hb => by
    by_cases h : b = Y.sa
    · subst h
      obtain ⟨c, ks, l, dx, vs, _, e2, _⟩ := ob
      rw [e2]
      exact fun z => by cases z
    · obtain ⟨o, ho⟩ := Option.ne_none_iff_exists'.mp hb
      rw [sm b o h ho]
      exact fun z => by cases z
  have gl : ∀ {l : List D} {vs : List V}, RepL Y.G (Zo Y.Ze O) H' l vs → RepGL Y.G (Zo Y.Ze O) α (ρ.set i (some (.slf d'))) H' l vs := by
    intro l
    induction l with
    | nil => intro vs h; exact h
    | cons d l ih =>
      intro vs h
      obtain ⟨v, r, e, h1, h2⟩ := h
      exact ⟨v, r, e, RepG.of h1, ih h2⟩
  refine ⟨by rw [List.length_set]; exact s.len, fun j d'' e => ?_, fun j d'' e => ?_, fun j d'' e => ?_, fun j d'' e => ?_, fun j k hj hk e => s.inj j k ((sub j).mp hj) ((sub k).mp hk) e, fun a => ?_, fun a z => st a (s.zt a z), fun a z => st a (s.ot a z), ptrA s.ptr (fun q => by cases q)⟩
  · rcases set_at e with ⟨_, q⟩ | ⟨_, q⟩
    · cases q
    · obtain ⟨v, e1, r⟩ := s.val j d'' q
      exact ⟨v, e1, r.mono sb fun _ q => .inl q⟩
  · rcases set_at e with ⟨_, q⟩ | ⟨hj, q⟩
    · cases q
    · obtain ⟨e1, n, r⟩ := s.own j d'' q
      exact ⟨e1, n, RepW.sub sb (fun _ q => .inl q) (fun o => sm _ o (an j ⟨d'', .inl q⟩ hj)) r⟩
  · rcases set_at e with ⟨rfl, q⟩ | ⟨hj, q⟩
    · cases q
      obtain ⟨c, ks, l, dx, vs, e1, e2, e3, e4⟩ := ob
      exact ⟨ei, ea, c, ks, l, dx, vs, e1, by rw [ea]; exact e2, e3, gl e4⟩
    · obtain ⟨e1, n, _⟩ := s.slf j d'' q
      exact absurd n (an j ⟨d'', .inr (.inl q)⟩ hj)
  · rcases set_at e with ⟨_, q⟩ | ⟨hj, q⟩
    · cases q
    · obtain ⟨r, k⟩ := s.gho j d'' q
      exact ⟨RepW.sub sb (fun _ q => .inl q) (fun o => sm _ o (an j ⟨d'', .inr (.inr q)⟩ hj)) r, k⟩
  · rw [s.oeq]
    exact ⟨fun ⟨j, k, e⟩ => ⟨j, (sub j).mpr k, e⟩, fun ⟨j, k, e⟩ => ⟨j, (sub j).mp k, e⟩⟩
/-- C.__init__(self, ..) -/
theorem ds_init {pl : Sem Bool} {C g : Addr} {fd : FuncData} {ps : List Str} (hg : Gl X xc) (hmc : X.mg xc = some (.ref C)) (r : CFn X.K C m g) (F : FnOk X.prog X.w X.K X.mg X.base (L2.CX X.prog X.w) j g fd ps (dspM Y.G init)) (hb : Binds X.K fd ps []) (hj : j ≤ Y.lv) (hN : X.N[i]? = some x) (ha : PDA X Y es fs)
    (hv : Vis X.env.scope x := by first | exact Or.inl rfl | exact Or.inr (Or.inl rfl) | exact Or.inr (Or.inr rfl)) (hd : (x == ("__debug__" : Str)) = false := by decide) (hcd : (x == ("__classdict__" : Str)) = false := by decide)
    (hdb : (xc == ("__debug__" : Str)) = false := by decide) (hst : starEach (.Name x p2 :: es) X.env = (false, eval (.Name x p2) X.env) :: starEach es X.env := by rfl) (hpl : (backTo cpos (starEach es X.env)).any (·.1) = false := by rfl)
    (ht : eval (.Call (.Attribute (.Name xc pc) m apos) (.Name x p2 :: es) [] cpos) X.env = (do
      let ov ← eval (.Name xc pc) X.env
      standAt apos.atName
      let (f, first) ← holding [ov] (getMethod ov m pl)
      callWith cpos f first (backTo cpos (starEach (.Name x p2 :: es) X.env)) (backToKw cpos (keywordEach [] X.env))) := by rfl)
    (hsw : swapsWith (.Call (.Attribute (.Name xc pc) m apos) (.Name x p2 :: es) [] cpos) none pos.line X.env = pure false := by rfl) (hca : Y.ca = true := by rfl) :
    PDS X Y (.Expr (.Call (.Attribute (.Name xc pc) m apos) (.Name x p2 :: es) [] cpos) pos) (sInitC i init fs) := fun k => by
  refine impPS (ps_expr (pe_cfn (E := WE Y.E) hg hmc r F ((k.room hca).mono hj) hb (fun σ => passAt k.tk σ) (pa_cons (pe_var hN hv hd hcd) (ha k) hst) hdb hst hpl ht) hsw) fun N σ H ⟨O, ρ, s, q⟩ => ?_
  unfold sInitC at q
  split at q
  rotate_left
  · exact q.elim
  rename_i c ks l hs
  obtain ⟨e1, Oa⟩ := s.sa_of hs
  have s0 := s
  obtain ⟨α, s⟩ := s
  refine ⟨.ref Y.sa, e1, O, ρ, s0, ?_⟩
  cases ef : fs ρ with
  | no => rw [ef] at q; exact q.elim
  | ex z => rw [ef] at q; exact fun c od H1 s1 xr => q O σ H1 c od (Stp.same s1) (s0.same s1) xr
  | ok ds =>
    rw [ef] at q
    simp only [R.st_ok] at q
    split at q
    rotate_left
    · exact q.elim
    rename_i hng
    intro us H1 s1 rs
    have s2 := s.same s1
    obtain ⟨_, ea, c2, ks2, l2, dx, vs, es', hH, hlen, rl⟩ := s2.slf i _ hs
    cases es'
    rw [ea] at hH
    refine ⟨Zo Y.Ze O, Y.sa, _, us, ds, rfl, .inr Oa, (s0.same s1).zt, ⟨c, ks, l, dx, vs, rfl, hH, hlen, RepGL.plain hng rl⟩, rs, ?_⟩
    have q := SPost.fwd (Stp.same s1) q
    cases ei : init (.obj c ks l) ds with
    | no => rw [ei] at q; exact q.elim
    | ex z =>
      rw [ei] at q
      intro cc od H' sm ha xr
      have st : ∀ b, H1 b ≠ none → H' b ≠ none := fun b hb => by
        by_cases h : b = Y.sa
        · subst h; exact ha
        · obtain ⟨o, ho⟩ := Option.ne_none_iff_exists'.mp hb
          rw [sm b o h ho]
          exact fun z => by cases z
      exact q (fun _ => False) σ H' cc od ⟨fun b o n e => sm b o (fun z => n (z ▸ Oa)) e, fun b z => z.elim⟩ (SR.wiped s2 st) (ExRep.weak (fun b z => z.elim .inl False.elim) xr)
    | ok pr =>
      rw [ei] at q
      intro v H' sm ob rv
      exact q O σ H' ⟨fun b o n e => sm b o (fun z => n (z ▸ Oa)) e, fun b z => .inl z⟩ ⟨α, s2.reS hs sm ob⟩
end
end Tw

set_option maxHeartbeats 2000000
namespace Tw
open PySem PySem.Spec L2
open PyProof.Rows hiding St
/-- the keyword-only default of the name x of the method m of c -/
def kwAd (c m x : Str) (K : PySem.W.Frag) : Addr := match K.lookup (mAd c m K) with
  | some ⟨_, _, .func fd, _⟩ => (match fd.kwdefaults with
    | .ref D => (match PySem.W.nsIn K D x with
      | some (some (.ref a)) => a
      | _ => 0)
    | _ => 0)
  | _ => 0
/-- the positional default -/
def dfAd (c m : Str) (i : Nat) (K : PySem.W.Frag) : Addr := match K.lookup (mAd c m K) with
  | some ⟨_, _, .func fd, _⟩ => (match fd.defaults with
    | .ref T => (match K.lookup T with
      | some ⟨_, _, .seq its _, _⟩ => (match its[i]? with
        | some (.ref a) => a
        | _ => 0)
      | _ => 0)
    | _ => 0)
  | _ => 0
section
variable {X : Cx} {CX : CXT} {k : Nat} {f C : Addr} {fd : FuncData} {ps : List Str} {sp : Sp} {dvs : List V} {ds : List Value} {E : L2.St → XK} {x : Str} {p pos : Pos} {e : Expr} {es : List Expr} {t : TA}
end
section
variable {X : Cx} {Y : Cy} {e : Expr} {es : List Expr} {fs : DA} {pos p : Pos} {x : Str} {init : D → List D → R (D × D)} {dD : List D} {j : Nat}
end
end Tw

set_option maxHeartbeats 2000000
namespace Tw
open PySem PySem.Spec L2
open PyProof.Rows hiding St
section
variable {X : Cx} {Y : Cy} {a e tg elt iter : Expr} {ifs : List Expr} {fa : DE} {pos : Pos} {i : Nat}
end
section
variable {X : Cx} {Y : Cy} {tg iter elt : Expr} {ifs : List Expr} {scope : Scope} {own : List (Str × Nat)} {is : List Nat} {fi : DI} {g : DG} {c : DT} {e : DE} {pos : Pos}
end
end Tw

set_option maxHeartbeats 2000000
namespace Tw
open PySem PySem.Spec L2
open PyProof.Rows hiding St
section
variable {K : PySem.W.Frag} {x qual : Str} {params : Arguments} {body : List Stmt} {scope : Scope} {dv : V} {kws : List (Str × V)} {f : Addr} {fd : FuncData} {ps : List Str}
theorem bindsW (F : FunD K x qual params body scope [dv] kws f fd)
    (h : ∀ (T : Addr) (kV doc pm : Value) (an : Option Addr) (cdv ct : Value) (us its : List Value), us.length = ps.length → its.length = 1 →
      ∃ k, bindArgs (PySem.W.fnOf x qual params body scope (.ref T) kV doc pm an cdv ct) ⟨us, []⟩ = seqItems? (.ref T) >>= k ∧ k (some its.toArray) = pure (ps.zip us)) : Binds K fd ps [] := by
  obtain ⟨ds, hv, hb⟩ := F.binds1 (ps := ps) ps.length 1 (by exact fun q => by cases q) rfl fun T kV doc pm an cdv ct us its h1 h2 => by
    obtain ⟨k, e1, e2⟩ := h T kV doc pm an cdv ct us its h1 h2
    refine ⟨k, e1, ?_⟩
    rw [e2, List.drop_of_length_le (by rw [h2]; exact Nat.le_refl 1), List.append_nil]
  cases hv
  exact hb
theorem cons0 {n : Nat} {ks : List Str} {g : List Value → List Value → List Value} {m : List V} (h : KBn K fd ps n ks g (fun vs zs => vs ++ (zs ++ m))) :
    KBn K fd ps n ks g (fun vs zs => match vs with | v :: r => v :: (fun r zs => r ++ (zs ++ m)) r zs | [] => (fun r zs => r ++ (zs ++ m)) [] zs) := by
  have e : (fun vs zs => vs ++ (zs ++ m)) = (fun vs zs => match vs with | v :: r => v :: (fun r zs => r ++ (zs ++ m)) r zs | [] => (fun r zs => r ++ (zs ++ m)) [] zs) := by
    funext vs zs
    cases vs <;> rfl
  rw [← e]
  exact h
end
section
variable {X : Cx} {Y : Cy} {a b : Expr} {fa fb : DE} {pos p pos' : Pos} {x : Str} {i : Nat}
end
end Tw

set_option maxHeartbeats 2000000
namespace Tw
open PySem PySem.Spec L2
open PyProof.Rows hiding St
/-- all but D stands -/
def SameX (D : Addr) (H H' : Hp) : Prop := ∀ b o, b ≠ D → H b = some o → H' b = some o
theorem SameX.trans {D : Addr} {H H1 H2 : Hp} (a : SameX D H H1) (b : SameX D H1 H2) : SameX D H H2 := fun c o n h => b c o n (a c o n h)
theorem Same.x {D : Addr} {H H' : Hp} (s : Same H H') : SameX D H H' := fun b o _ h => s b o h
theorem SameX.sub {D : Addr} {H H' : Hp} {Z : Addr → Prop} (s : SameX D H H') (z : Z D) : Sub Z H H' := fun b o n h => s b o (fun e => n (e ▸ z)) h
section
variable {Y : Cy} {O : Addr → Prop} {ρ : DEnv} {σ : L2.St} {H H' : Hp} {α : Nat → Addr} {p0 : Addr}
theorem RepW.off {G : Gc} {Z : Addr → Prop} {d : D} {a : Addr} (s : SameX p0 H H') (z : Z p0) (ha : a ≠ p0) (h : RepW G Z H d (.ref a)) : RepW G Z H' d (.ref a) := by
  have sb := s.sub z
  cases d with
  | lst l => obtain ⟨b, vs, e, t, r⟩ := h; cases e; exact ⟨a, vs, rfl, s _ _ ha t, RepL.mono sb (fun _ z => .inl z) r⟩
  | dct ks l => obtain ⟨b, vs, e, t, k, r⟩ := h; cases e; exact ⟨a, vs, rfl, s _ _ ha t, k, RepL.mono sb (fun _ z => .inl z) r⟩
  | obj c ks l => obtain ⟨b, dx, vs, e, t, k, r⟩ := h; cases e; exact ⟨a, dx, vs, rfl, s _ _ ha t, k, RepL.mono sb (fun _ z => .inl z) r⟩
  | _ => exact Rep.mono sb (fun _ z => .inl z) h
theorem RepG.off (s : SameX p0 H H') {Z : Addr → Prop} (z : Z p0) {G : Gc} {d : D} {v : V} (h : RepG G Z α ρ H d v) : RepG G Z α ρ H' d v := by
  cases d with
  | gst j => exact h
  | _ => exact Rep.mono (s.sub z) (fun _ z => .inl z) h
theorem RepGL.off (s : SameX p0 H H') {Z : Addr → Prop} (z : Z p0) {G : Gc} : ∀ {ds : List D} {vs : List V}, RepGL G Z α ρ H ds vs → RepGL G Z α ρ H' ds vs
  | [], vs, h => h
  | d :: ds, vs, h => by
    obtain ⟨v, r, e, h1, h2⟩ := h
    exact ⟨v, r, e, RepG.off s z h1, RepGL.off s z h2⟩
theorem SR.off (h : SR Y O ρ σ H) (s : SameX p0 H H') (z : Y.Ze p0) (nO : ¬ O p0) (hD : H' p0 ≠ none) : SR Y O ρ σ H' := by
  obtain ⟨α, h⟩ := h
  have zo : Zo Y.Ze O p0 := .inl z
  have own : ∀ i, isOwn ρ i → α i ≠ p0 := fun i hi e => nO (e ▸ (h.oeq _).mpr ⟨i, hi, rfl⟩)
  have fr : ∀ a, H a ≠ none → H' a ≠ none := fun a n => by
    by_cases e : a = p0
    · rw [e]; exact hD
    · obtain ⟨o, ho⟩ := Option.ne_none_iff_exists'.mp n
      rw [s a o e ho]; exact fun z => by cases z
  refine ⟨α, h.len, fun i d e => ?_, fun i d e => ?_, fun i d e => ?_, fun i d e => ?_, h.inj, h.oeq, fun a z => fr a (h.zt a z), fun a z => fr a (h.ot a z), h.ptr⟩
  · obtain ⟨v, e1, r⟩ := h.val i d e
    exact ⟨v, e1, r.mono (s.sub zo) (fun _ z => .inl z)⟩
  · obtain ⟨e1, n, r⟩ := h.own i d e
    exact ⟨e1, n, r.off s zo (own i ⟨d, .inl e⟩)⟩
  · obtain ⟨e1, n, c, ks, l, dx, vs, e2, e3, e4, r⟩ := h.slf i d e
    exact ⟨e1, n, c, ks, l, dx, vs, e2, s _ _ (own i ⟨d, .inr (.inl e)⟩) e3, e4, RepGL.off s zo r⟩
  · obtain ⟨r, k⟩ := h.gho i d e
    exact ⟨r.off s zo (own i ⟨d, .inr (.inr e)⟩), k⟩
end
def tXIs (Y : Cy) (f : DI) : TI := fun σ H Q => ∃ Ze, tDI (Y.blk Ze) f σ H Q
theorem PI.xalls {X : Cx} {Y : Cy} {tg e : Expr} {f : DI} (h : ∀ Ze, PI X tg e (tDI (Y.blk Ze) f)) : PI X tg e (tXIs Y f) := ⟨fun pins s σ H Q I ⟨Ze, q⟩ => (h Ze).run pins s σ H Q I q⟩
section
variable {X : Cx} {Y : Cy} {O : Addr → Prop} {ρ : DEnv} {σ : L2.St} {H : Hp}
theorem zo_blk {Ze O : Addr → Prop} {D : Addr} (a : Addr) : Zo (fun a => Ze a ∨ a = D) O a ↔ Zo Ze O a ∨ a = D := by
  constructor
  · rintro ((z | z) | z)
    · exact .inl (.inl z)
    · exact .inr z
    · exact .inl (.inr z)
  · rintro ((z | z) | z)
    · exact .inl (.inl z)
    · exact .inr z
    · exact .inl (.inr z)
/-- the loops of a comprehension with two clauses -/
theorem comp2_core {vs vs1 is is1 : List Nat} {g g1 : DG} {it1 : DI} {c1 : DT} {e : DE} {J : It} {l ys : List D} {H0 : Hp} {Qd : Addr → Hp → Prop} (s : SR Y O ρ σ H0) (hw : okW vs ρ = true) (hyl : ys.length ≤ lineD) (hk : ∀ i ∈ is, i ∈ vs) (hk1 : ∀ i ∈ is1, i ∈ vs1) (w : WalkW Y.G (Zo Y.Ze O) H0 J l)
    (hc : comp2L g it1 vs1 g1 c1 e (wipD vs ρ) l = .ok ys)
    (hq : ∀ D H' us, Same H0 H' → H0 D = none → H' D = some (.lst us) → RepL Y.G (fun a => Zo Y.Ze O a ∨ a = D) H' ys us → Qd D H') :
    ∀ D, H0 D = none → ∃ W : Nat → Nat → Hp → Prop, (∃ m, W 0 m (upd H0 D (.lst []))) ∧ ∀ i m H, W i m H →
      (J.stop i H ∧ Qd D H) ∨ (J.go i H ∧ ∃ Nx : Hp → Prop, (∀ H', Nx H' → ∃ m', m' < m ∧ W (i + 1) m' H') ∧ ∀ x H', J.yld i H x H' → tXG Y is g x (L2.wipe σ vs) H' fun σ2 H2 => L2.wipe σ2 vs = L2.wipe σ vs ∧ tXT Y tYesD σ2 H2 fun b H3 =>
        if b = true then tXIs Y it1 σ2 H3 fun J1 H4 => ∃ W1 : Nat → Nat → Hp → Prop, (∃ m, W1 0 m H4) ∧ ∀ j k H, W1 j k H →
          (J1.stop j H ∧ Nx H) ∨ (J1.go j H ∧ ∃ Nx1 : Hp → Prop, (∀ H', Nx1 H' → ∃ k', k' < k ∧ W1 (j + 1) k' H') ∧ ∀ x H', J1.yld j H x H' → tXG Y is1 g1 x (L2.wipe σ2 vs1) H' fun σ3 H5 => L2.wipe σ3 vs1 = L2.wipe σ2 vs1 ∧ tXT Y c1 σ3 H5 fun b H6 =>
            if b = true then tX Y e σ3 H6 fun y H7 => ∃ acc, H7 D = some (.lst acc) ∧ acc.length < sizeLine ∧ Nx1 (upd H7 D (.lst (acc ++ [y]))) else Nx1 H6)
        else Nx H3) := by
  intro D hD
  let P : Nat → Hp → Prop := fun i H' => Same H0 H' ∧ ∃ acc us, H' D = some (.lst us) ∧ RepL Y.G (fun a => Zo Y.Ze O a ∨ a = D) H' acc us ∧ ∃ rest, comp2L g it1 vs1 g1 c1 e (wipD vs ρ) (l.drop i) = .ok rest ∧ ys = acc ++ rest
  refine ⟨fun i m H' => m = l.length - i ∧ i ≤ l.length ∧ P i H', ⟨_, rfl, Nat.zero_le _, same_new hD, [], [], upd_same, rfl, ys, by rw [List.drop_zero]; exact hc, rfl⟩, ?_⟩
  rintro i m H' ⟨rfl, hi, sm, acc, us, hu, ru, rest, hr, hy⟩
  have zz : ∀ a, (fun a => Zo Y.Ze O a ∨ a = D) a → Zo Y.Ze O a ∨ H0 a = none := fun a z => z.elim .inl fun e => .inr (by rw [e]; exact hD)
  have ww := w i H' (fun a => Zo Y.Ze O a ∨ a = D) sm zz
  have hne : H' D ≠ none := by rw [hu]; exact fun z => by cases z
  by_cases hlt : i < l.length
  · obtain ⟨d, hd, e1⟩ := drop_cons hlt
    obtain ⟨go, yl⟩ := ww.1 d hd
    rw [e1] at hr
    refine .inr ⟨go, fun H2 => i + 1 ≤ l.length ∧ P (i + 1) H2, fun H2 h => ⟨l.length - (i + 1), by omega, rfl, h.1, h.2⟩, fun x H3 y => ?_⟩
    obtain ⟨s3, r3⟩ := yl x H3 y
    have sb : SR (Y.blk fun a => Y.Ze a ∨ a = D) O (wipD vs ρ) (L2.wipe σ vs) H3 := (s.wipe hw).blk (sm.trans s3) hD fun q => hne (s3.free q)
    refine ⟨fun a => Y.Ze a ∨ a = D, O, wipD vs ρ, d, sb, r3.weak fun a z => (zo_blk a).mp z, ?_⟩
    simp only [comp2L] at hr
    cases eg : g d (wipD vs ρ) with
    | no => rw [eg] at hr; cases hr
    | ex e => rw [eg] at hr; cases hr
    | ok ρ1 =>
      rw [eg] at hr
      simp only at hr
      intro O1 σ1 st1 s1 off ow
      refine ⟨off.wipe hk, fun a => Y.Ze a ∨ a = D, O1, ρ1, s1, ?_⟩
      have nO : ¬ O1 D := fun z => by
        rcases st1.2 D z with z | z
        · exact s.zt D (.inr z) hD
        · rw [s3 _ _ hu] at z; cases z
      intro H4 s4
      rw [if_pos rfl]
      refine ⟨fun a => Y.Ze a ∨ a = D, O1, ρ1, s1.same s4, ?_⟩
      cases ei : it1 ρ1 with
      | no => rw [ei] at hr; cases hr
      | ex x => rw [ei] at hr; cases hr
      | ok l1 =>
        rw [ei] at hr
        simp only at hr
        split at hr
        · rename_i hw1
          cases ec : compL g1 c1 e (wipD vs1 ρ1) l1 with
          | no => rw [ec] at hr; cases hr
          | ex x => rw [ec] at hr; cases hr
          | ok ys1 =>
            rw [ec] at hr
            simp only at hr
            cases er : comp2L g it1 vs1 g1 c1 e (wipD vs ρ) (l.drop (i + 1)) with
            | no => rw [er] at hr; cases hr
            | ex x => rw [er] at hr; cases hr
            | ok zs =>
              rw [er] at hr
              cases hr
              intro J1 H5 s5 w1
              have s05 := sm.trans (s3.trans (s4.trans s5))
              have s35 := s3.trans (s4.trans s5)
              have s1' := (s1.same s4).same s5
              let P1 : Nat → Hp → Prop := fun j H' => Same H0 H' ∧ SameX D H5 H' ∧ ∃ acc us, H' D = some (.lst us) ∧ RepL Y.G (fun a => Zo Y.Ze O a ∨ a = D) H' acc us ∧ ∃ rest1, compL g1 c1 e (wipD vs1 ρ1) (l1.drop j) = .ok rest1 ∧ ys = acc ++ rest1 ++ zs
              refine ⟨fun j k H' => k = l1.length - j ∧ j ≤ l1.length ∧ P1 j H', ⟨_, rfl, Nat.zero_le _, s05, fun _ _ _ h => h, acc, us, s35 _ _ hu, ru.same s35, ys1, by rw [List.drop_zero]; exact ec, by rw [hy, List.append_assoc]⟩, ?_⟩
              rintro j k H6 ⟨rfl, hj, s06, x56, acc, us, hu, ru, rest1, hr1, hy⟩
              have zD : Zo (fun a => Y.Ze a ∨ a = D) O1 D := .inl (.inr rfl)
              have ww1 := w1 j H6 (Zo (fun a => Y.Ze a ∨ a = D) O1) (x56.sub zD) fun a z => .inl z
              have hne6 : H6 D ≠ none := by rw [hu]; exact fun z => by cases z
              by_cases hlt1 : j < l1.length
              · obtain ⟨d1, hd1, e2⟩ := drop_cons hlt1
                obtain ⟨go1, yl1⟩ := ww1.1 d1 hd1
                rw [e2] at hr1
                refine .inr ⟨go1, fun H2 => j + 1 ≤ l1.length ∧ P1 (j + 1) H2, fun H2 h => ⟨l1.length - (j + 1), by omega, rfl, h.1, h.2⟩, fun x H7 y7 => ?_⟩
                obtain ⟨s7, r7⟩ := yl1 x H7 y7
                have sr7 : SR (Y.blk fun a => Y.Ze a ∨ a = D) O1 (wipD vs1 ρ1) (L2.wipe σ1 vs1) H7 := ((s1'.off x56 (.inr rfl) nO hne6).same s7).wipe hw1
                refine ⟨fun a => Y.Ze a ∨ a = D, O1, wipD vs1 ρ1, d1, sr7, r7, ?_⟩
                simp only [compL] at hr1
                cases eg1 : g1 d1 (wipD vs1 ρ1) with
                | no => rw [eg1] at hr1; cases hr1
                | ex e => rw [eg1] at hr1; cases hr1
                | ok ρ2 =>
                  rw [eg1] at hr1
                  simp only at hr1
                  intro O2 σ2 st2 s2 off2 ow2
                  refine ⟨off2.wipe hk1, fun a => Y.Ze a ∨ a = D, O2, ρ2, s2, ?_⟩
                  cases ec1 : c1 ρ2 with
                  | no => rw [ec1] at hr1; cases hr1
                  | ex e => rw [ec1] at hr1; cases hr1
                  | ok b =>
                    rw [ec1] at hr1
                    intro H8 s8
                    cases b with
                    | false =>
                      rw [if_neg Bool.false_ne_true]
                      exact ⟨hlt1, s06.trans (s7.trans s8), x56.trans (Same.x (s7.trans s8)), acc, us, (s7.trans s8) _ _ hu, ru.same (s7.trans s8), rest1, hr1, hy⟩
                    | true =>
                      rw [if_pos rfl]
                      simp only at hr1
                      refine ⟨fun a => Y.Ze a ∨ a = D, O2, ρ2, s2.same s8, ?_⟩
                      cases ee : e ρ2 with
                      | no => rw [ee] at hr1; cases hr1
                      | ex x => rw [ee] at hr1; cases hr1
                      | ok d2 =>
                        rw [ee] at hr1
                        simp only at hr1
                        cases er1 : compL g1 c1 e (wipD vs1 ρ1) (l1.drop (j + 1)) with
                        | no => rw [er1] at hr1; cases hr1
                        | ex x => rw [er1] at hr1; cases hr1
                        | ok rest2 =>
                          rw [er1] at hr1
                          cases hr1
                          intro v H9 s9 rv
                          have s69 := s7.trans (s8.trans s9)
                          have hu9 : H9 D = some (.lst us) := s69 _ _ hu
                          have ll := ru.length
                          have hyl' := hyl
                          rw [hy] at hyl'
                          simp only [List.length_append, List.length_cons] at hyl'
                          refine ⟨us, hu9, ?_, hlt1, fun b o q => ?_, fun b o n q => ?_, acc ++ [d2], us ++ [v], upd_same, ?_, rest2, er1, by rw [hy]; simp⟩
                          · rw [lineD_eq]; omega
                          · rw [upd_ne (ne_of_none q hD)]
                            exact s69 b o (s06 b o q)
                          · rw [upd_ne n]
                            exact s69 b o (x56 b o n q)
                          · have sb : Sub (fun a => Zo Y.Ze O a ∨ a = D) H9 (upd H9 D (.lst (us ++ [v]))) := fun b o n q => by
                              rw [upd_ne fun e => n (.inr e)]
                              exact q
                            refine RepL.mono sb (fun a z => .inl z) ((ru.same s69).append (RepL.one ?_))
                            refine Rep.mono (Same.sub (Same.refl H9)) (fun a z => ?_) rv
                            rcases z with (z | z) | z
                            · exact .inl (.inl (.inl z))
                            · exact .inl (.inr (ow2 (fun i hi' => wip_noown hw1 (hk1 i hi')) a (ow (fun i hi' => wip_noown hw (hk i hi')) a z)))
                            · exact .inl (.inl (.inr z))
              · have e2 : j = l1.length := by omega
                subst e2
                rw [List.drop_length] at hr1
                cases hr1
                rw [List.append_nil] at hy
                exact .inl ⟨ww1.2 (Nat.le_refl _), hlt, s06, acc, us, hu, ru, zs, er, hy⟩
        · cases hr
  · have e1 : i = l.length := by omega
    subst e1
    rw [List.drop_length] at hr
    cases hr
    rw [List.append_nil] at hy
    subst hy
    exact .inl ⟨ww.2 (Nat.le_refl _), hq D H' us sm hD hu ru⟩
theorem comp2L_ex {g g1 : DG} {it1 : DI} {vs1 : List Nat} {c1 : DT} {e : DE} {ρ : DEnv} {x : Ex} : ∀ {l : List D}, comp2L g it1 vs1 g1 c1 e ρ l = .ex x → False
  | [], h => by cases h
  | d :: l, h => by
    simp only [comp2L] at h
    split at h
    · split at h
      · split at h
        · split at h
          · split at h <;> cases h
          · cases h
        · cases h
      · cases h
    · cases h
variable {elt tg iter tg1 iter1 : Expr} {ifs1 : List Expr} {scope : Scope} {own : List (Str × Nat)} {pos : Pos} {fi it1 : DI} {g g1 : DG} {c1 : DT} {e : DE} {is vs1 : List Nat}
theorem comp2_imp {Qv : VK} (hk : ∀ i ∈ is, i ∈ own.map (·.2)) (σ : L2.St) (H : Hp) (O : Addr → Prop) (ρ : DEnv) (s : SR Y O ρ σ H) (he : ∀ e', fi ρ = .ex e' → ∀ c od H', Same H H' → ExRep Y.G (Zo Y.Ze O) H' e' c od → Y.E c od σ H')
    (h : ∃ l ys, (fi ρ = .ok l ∧ ys.length ≤ lineD ∧ okW (own.map (·.2)) ρ = true ∧ comp2L g it1 vs1 g1 c1 e (wipD (own.map (·.2)) ρ) l = .ok ys ∧ ∀ D H' us, Same H H' → H D = none → H' D = some (.lst us) → RepL Y.G (fun a => Zo Y.Ze O a ∨ a = D) H' ys us → Qv (.ref D) H') ∨ ∃ e', fi ρ = .ex e') :
    tLc2 (tDIw Y fi) (tXG Y is g) (tXT Y tYesD) (tXIs Y it1) (tXG Y vs1 g1) (tXT Y c1) (tX Y e) (own.map (·.2)) vs1 σ H Qv := by
  refine ⟨O, ρ, s, ?_⟩
  obtain ⟨l, ys, h | ⟨e', h⟩⟩ := h
  · obtain ⟨ea, hl, hw, hc, hq⟩ := h
    rw [ea]
    intro J H1 s1 w D hD
    exact comp2_core (Qd := fun D H' => Qv (.ref D) H') (s.same s1) hw hl hk (fun i h => h) w hc (fun D H' us s2 h0 h1 r => hq D H' us (s1.trans s2) (s1.free h0) h1 r) D hD
  · rw [h]
    exact he e' h
theorem ds_comp2 {i : Nat} {y : Str} {py spos : Pos} (hy : X.N[i]? = some y) (hn : i < Y.n) (hyl : X.env.scope.names.lookup y = some .local) (hsw : swapsWith (.ListComp elt [⟨tg, iter, [], 0⟩, ⟨tg1, iter1, ifs1, 0⟩] scope pos) (some (.Name y py)) spos.line X.env = pure true)
    (hi : PDIw X Y tg iter fi) (ok : BlkOk X.N X.env.scope scope own) (hk : ∀ i ∈ is, i ∈ own.map (·.2)) (hk1 : ∀ i ∈ vs1, i ∈ own.map (·.2))
    (hg : ∀ (Ze : Addr → Prop) (s : Shared) (H : Hp) (C : Addr) (cl : List (Str × Addr)) (fp : List Addr), PDG (X.blk s H scope (compEnvC scope cl C X.env) fp) (Y.blk Ze) is tg g)
    (hi1 : ∀ (Ze : Addr → Prop) (s : Shared) (H : Hp) (C : Addr) (cl : List (Str × Addr)) (fp : List Addr), PDI (X.blk s H scope (compEnvC scope cl C X.env) fp) (Y.blk Ze) tg1 iter1 it1)
    (hg1 : ∀ (Ze : Addr → Prop) (s : Shared) (H : Hp) (C : Addr) (cl : List (Str × Addr)) (fp : List Addr), PDG (X.blk s H scope (compEnvC scope cl C X.env) fp) (Y.blk Ze) vs1 tg1 g1)
    (ht1 : ∀ (Ze : Addr → Prop) (s : Shared) (H : Hp) (C : Addr) (cl : List (Str × Addr)) (fp : List Addr), PDTs (X.blk s H scope (compEnvC scope cl C X.env) fp) (Y.blk Ze) ifs1 c1)
    (he : ∀ (Ze : Addr → Prop) (s : Shared) (H : Hp) (C : Addr) (cl : List (Str × Addr)) (fp : List Addr), PD (X.blk s H scope (compEnvC scope cl C X.env) fp) (Y.blk Ze) elt e)
    (hs : ∀ x, foldedSetIterable iter X.env x = pure x := by intro _; rfl) (hs1 : ∀ env x, foldedSetIterable iter1 env x = pure x := by intro _ _; rfl) (hca : Y.ca = true := by rfl) :
    PDS X Y (.Assign [.Name y py] (.ListComp elt [⟨tg, iter, [], 0⟩, ⟨tg1, iter1, ifs1, 0⟩] scope pos) spos) (sSet i (eComp2 fi (own.map (·.2)) g it1 vs1 g1 c1 e)) := fun k => by
  refine impPS (ps_setLc2 (k.calm hca) k.nd hy hyl hsw (hi k) ok hk1 (fun s H C cl fp => PG.xall fun Ze => hg Ze s H C cl fp (k.blk s H scope _ fp Ze)) (fun s H C cl fp => PTs.xall fun Ze => dts_nil (k.blk s H scope _ fp Ze)) (fun s H C cl fp => PI.xalls fun Ze => hi1 Ze s H C cl fp (k.blk s H scope _ fp Ze)) (fun s H C cl fp => PG.xall fun Ze => hg1 Ze s H C cl fp (k.blk s H scope _ fp Ze)) (fun s H C cl fp => PTs.xall fun Ze => ht1 Ze s H C cl fp (k.blk s H scope _ fp Ze)) (fun s H C cl fp => PE.xall fun Ze => he Ze s H C cl fp (k.blk s H scope _ fp Ze)) hs hs1) fun N σ H ⟨O, ρ, s, q⟩ => ?_
  unfold sSet eComp2 at q
  refine comp2_imp hk σ H O ρ s (fun e' ee => by rw [ee] at q; exact fun c od H' s' xr => q O σ H' c od (Stp.same s') (s.same s') xr) ?_
  cases ea : fi ρ with
  | no => rw [ea] at q; exact q.elim
  | ex e' => exact ⟨[], [], .inr ⟨e', rfl⟩⟩
  | ok l =>
    rw [ea] at q
    simp only [R.bind_ok] at q
    split at q
    · rename_i hl
      cases ec : comp2L g it1 vs1 g1 c1 e (wipD (own.map (·.2)) ρ) l with
      | no => rw [ec] at q; exact q.elim
      | ex e' => exact (comp2L_ex ec).elim
      | ok ys =>
        rw [ec] at q
        simp only [R.bind_ok] at q
        by_cases hyl : ys.length ≤ lineD
        · refine ⟨l, ys, .inl ⟨rfl, hyl, hl, ec, fun D H' us s1 h0 h1 r => ?_⟩⟩
          simp only [if_pos hyl, R.st_ok] at q
          cases es : setV i (.lst ys) ρ with
          | no => rw [es] at q; exact q.elim
          | ex e => exact (setV_no es).elim
          | ok ρ' =>
            rw [es] at q
            obtain ⟨O', st, s', _⟩ := (s.same s1).setv es hn (v := .ref D) ⟨D, us, rfl, fun z => s.zt D z h0, h1, r.weak fun a z => .inl z⟩
            exact q O' _ H' ((Stp.same s1).trans st) s'
        · rw [if_neg hyl] at q
          exact q.elim
    · exact q.elim
end
end Tw

namespace Tw
open PySem
end Tw

namespace Tw
open PySem
/-- the program's errors stand right under HierarchyError -/
def exSub (a c : String) : Bool := a == c || (c == "HierarchyError" || c == "ValueError")
/-- sep.join(x), x a list of texts -/
def oJoin (a : Str) : D → Option D
  | .lst l => match strsD l with
    | some ys => if (ys.map (·.length)).sum + ys.length * a.length ≤ lineD then some (.str (Str.join a ys)) else none
    | none => none
  | _ => none
def eJoin (a b : DE) : DE := fun ρ => (a ρ).bind fun x => match x with
  | .str z => (b ρ).bind fun y => R.of (oJoin z y)
  | _ => .no
/-- e.f, e the caught error -/
def eXf (e : Ex) (f : Str) : DE := fun _ => R.of (lookD e.ks e.vs f)
/-- isinstance(e, c) -/
def eXi (e : Ex) (c : String) : DE := fun _ => .ok (.bl (exSub e.cls c))
/-- a clause: the class, the place of its name, the suite -/
abbrev Hd := String × Nat × (Ex → DS)
def outX (i : Nat) : R Out → R Out
  | .ok (.nx ρ) => match ρ[i]? with | some none => .ok (.nx ρ) | _ => .no
  | .ok (.rt d ρ) => .ok (.rt d ρ)
  | _ => .no
def tryH : List Hd → Ex → DEnv → R Out
  | [], e, ρ => .ok (.xx e ρ)
  | h :: hs, e, ρ => if exSub e.cls h.1 then (match ρ[h.2.1]? with | some none => outX h.2.1 (h.2.2 e ρ) | _ => .no) else tryH hs e ρ
/-- try: b except ..: the classes es may come -/
def sTry (es : List String) (b : DS) (hs : List Hd) : DS := fun ρ => match b ρ with
  | .ok (.xx e ρ') => if e.cls ∈ es then tryH hs e ρ' else .no
  | r => r
end Tw

set_option maxHeartbeats 2000000
namespace Tw
open PySem PySem.Spec L2
open PyProof.Rows hiding St
abbrev Cl := Value × Nat × (Addr → Value → Option Addr → TS)
/-- behind a clause's suite its name is gone -/
def goneE (i : Nat) (D : Ends) : Ends := { nx := fun σ H => D.nx (σ.set i none) H, rt := D.rt, bk := fun σ H => D.bk (σ.set i none) H, ct := fun σ H => D.ct (σ.set i none) H }
def wCl (K : PySem.W.Frag) (Wo : WX) (D : Ends) : List Cl → WX
  | [] => Wo
  | q :: r => fun cls d σ H => ∃ b, PySem.W.exmOne K cls q.1 = some b ∧ (b = true → ∀ a, H a = none → q.2.2 a cls d (goneE q.2.1 D) (σ.set q.2.1 (some (.ref a))) H) ∧ (b = false → wCl K Wo D r cls d σ H)
inductive ClsOk (X : Cx) : List ExceptHandler → List Cl → Prop
  | nil : ClsOk X [] []
  | cons {x n : Str} {c : Value} {i : Nat} {ts : Addr → Value → Option Addr → TS} {s0 : Stmt} {su : List Stmt} {np hp : Pos} {hs : List ExceptHandler} {l : List Cl} (hc : Names X x c) (hi : X.N[i]? = some n) (hl : X.env.kindOf n = some .local)
      (h : ∀ (a : Addr) (oe : Obj) (cls : Value) (d : Option Addr) (pn : List (Addr × Obj)), Zc cls d oe → (∃ vs, oe.data = .fields vs) → PSs (X.suite a ((a, oe) :: pn)) (s0 :: su) (ts a cls d)) (r : ClsOk X hs l) :
      ClsOk X (.ExceptHandler (some (.Name x np)) (some n) (s0 :: su) hp :: hs) ((c, i, ts) :: l)
section
variable {X : Cx} {body : List Stmt} {h0 : ExceptHandler} {hs : List ExceptHandler} {l : List Cl} {pos : Pos} {tb : WX → TS} {Wo : WX}
theorem ps_tryCl (hst : X.stack = X.env :: X.outer) (hfr : X.env.frame = some X.env.locals) (hN : X.N.Nodup) (tk : Takes X Wo)
    (hb : ∀ (W : WX) (pn : List (Addr × Obj)) (xe : Value → Shared → Prop), Takes (X.tr pn xe) W → PassesOwn (model X.prog X.w) X.A X.env xe → PSs (X.tr pn xe) body (tb W))
    (hh : ClsOk X (h0 :: hs) l) : PS X (.Try body (h0 :: hs) [] [] pos) (fun D σ H => tb (wCl X.K Wo D l) D σ H) := by
  constructor
  intro pins s σ H D I q
  have ok := I.ok
  have fr : X.A.frames = some (X.env :: X.outer) := ok.frames.trans (congrArg some hst)
  let after : Value → Shared → Prop := fun e s₁ => wpAny (model X.prog X.w) X.A (noteFrame e X.env) (fun _ s₂ => wpAny (model X.prog X.w) X.A (setFlight e none) (fun _ s₃ => wpAny (model X.prog X.w) X.A (handleBy e X.env (h0 :: hs)) (SP X pins D) X.xe s₃) X.xe s₂) X.xe s₁
  refine wpAny_Try_except (wpAny_mono ((hb (wCl X.K Wo D l) (X.pn ++ pins) after ?caught PassesOwn.looking).run [] s σ H D (I.toTry _) q) ?through (fun e s1 he => he))
  case through =>
    intro f s1 sp
    cases f with
    | next => exact let ⟨σ', H', J, z⟩ := sp; wpAny_execs_nil ⟨σ', H', J.ofTry ok, z⟩
    | brk => exact let ⟨σ', H', J, z⟩ := sp; ⟨σ', H', J.ofTry ok, z⟩
    | cont => exact let ⟨σ', H', J, z⟩ := sp; ⟨σ', H', J.ofTry ok, z⟩
    | ret u => exact let ⟨v, σ', H', J, rv, z⟩ := sp; ⟨v, σ', H', J.ofTry ok, rv, z⟩
  case caught =>
    intro u t xx
    obtain ⟨a, B, sI, pins', σ1, H1, cls, d, eu, J0, nb, up, sky, na, os, ag, w⟩ := xx
    subst eu
    have J : Inv X pins σ1 H1 sI := J0.ofTry ok
    have sky1 : Sky B (X.env :: X.outer) a (Zc cls d) X.env.locals t.heap := hst ▸ sky
    refine Sky.land Zc.steady fr hfr sky1 fun g1 fl1 up1 => ?_
    have J1 : Inv X pins σ1 H1 { t with heap := g1 } := J.landed nb fl1.1 (up.trans up1) os ag
    obtain ⟨ob, fs, hob, hzo, hdo⟩ := fl1.there
    have far : a ∉ frs (X.env :: X.outer) := by
      intro hm
      obtain ⟨_, o', e', hnf⟩ := fl1.2.2.1.mem hm
      rw [hob] at e'
      cases e'
      exact hnf _ hdo
    have nL : a ≠ X.env.locals := fun z => far (List.mem_filterMap.mpr ⟨X.env, List.mem_cons_self, hfr.trans (congrArg some z.symm)⟩)
    have nF : a ∉ X.fs := by
      intro hm
      obtain ⟨e, he, z⟩ := List.mem_filterMap.mp hm
      exact far (List.mem_filterMap.mpr ⟨e, List.mem_cons_of_mem _ he, z⟩)
    have K1 := J1.suite hob hdo na nL nF
    have walk : ∀ {hs' : List ExceptHandler} {l' : List Cl}, ClsOk X hs' l' → wCl X.K Wo D l' cls d σ1 H1 → wpAny (model X.prog X.w) X.A (handleBy (.ref a) X.env hs') (SP X pins D) X.xe { t with heap := g1 } := by
      intro hs' l' hk
      induction hk with
      | nil =>
        intro w
        refine wpAny_handleBy_nil ?_
        obtain ⟨_, _, _, oe, vs, T, _, _, he, _, hd, h1, _⟩ := id fl1
        unfold PySem.passOn
        refine wpAny_bind (wpAny_field he hd h1 ?_)
        rw [if_neg (show ¬ (Value.ref T == Value.none) = true by simp)]
        have fin : wpAny (model X.prog X.w) X.A (setFlight (.ref a) X.env.frame) (fun _ s4 => wpAny (model X.prog X.w) X.A (throw (.ref a) : Sem Flow) (SP X pins D) X.xe s4) X.xe { t with heap := g1 } := by
          rw [hfr]
          refine HandSPX.setFlight_upZ fl1 fun g2 hg2 up2 => wpAny_throw (tk _ _ ⟨a, B, sI, pins, σ1, H1, cls, d, rfl, J, nb, (up.trans up1).trans up2, .inr (.inr (hst ▸ hg2)), na, os, ag, w⟩)
        first | exact wpAny_bind (wpAny_pure (wpAny_bind fin)) | exact wpAny_bind fin
      | @cons x n c i ts s0 su np hp hs2 l2 hc hi hl h r ih =>
        intro w
        obtain ⟨b, hb1, yes, no⟩ := w
        refine wpAny_handleBy_cons (codeAny_handlers_test ?_) (by intro z; cases z)
        have look : PySem.W.Looks (model X.prog X.w) g1 (typeOf (.ref a)) cls := fun A Q E s k z => wpAny_typeOf_ref (k _ _ hob) (hzo.1.symm ▸ z)
        have lm := PySem.W.exm_one (M := model X.prog X.w) J1.kIn look hb1
        have test : ∀ {Q : Value → Shared → Prop} {E : Value → Shared → Prop}, Q c { t with heap := g1 } → wpAny (model X.prog X.w) (X.A.mark (some (.ref a))) (eval (.Name x np) X.env) Q E { t with heap := g1 } := by
          intro Q E z
          obtain ⟨hg, hdbg, hm | ⟨hm, hv, hnn⟩⟩ := hc
          · exact ld_glob (X := X.suite a ((a, ob) :: (X.pn ++ pins))) K1 hg hm z hdbg
          · exact ld_blt (X := X.suite a ((a, ob) :: (X.pn ++ pins))) K1 hg hm hv z hnn hdbg
        refine test (lm.here ?_)
        cases b with
        | false => exact ih (no rfl)
        | true =>
          refine codeAny_handlers_suite_as (HandSPX.lands_againZ fl1 fun g2 fl2 up2 => ?_)
          have J2 : Inv X pins σ1 H1 { t with heap := g2 } := J.landed nb fl2.1 ((up.trans up1).trans up2) os ag
          obtain ⟨ob2, fs2, hob2, hzo2, hdo2⟩ := fl2.there
          have K2 := J2.suite hob2 hdo2 na nL nF
          refine store_ok (X := X.suite a ((a, ob2) :: (X.pn ++ pins))) (v := .ref a) K2 hN hi (.inl hl) rfl (fun s5 K5 => ?_) (.inr hl)
          refine wpAny_mono ((h a ob2 cls d (X.pn ++ pins) hzo2 ⟨_, hdo2⟩).run [] s5 _ H1 _ K5 (yes rfl a na)) ?_ (fun _ _ z => z.elim)
          intro f s6 sp
          have fin : ∀ {σ6 : L2.St} {H6 : Hp} {Q : Shared → Prop}, Inv (X.suite a ((a, ob2) :: (X.pn ++ pins))) [] σ6 H6 s6 → (∀ s7, Inv X pins (σ6.set i none) H6 s7 → Q s7) →
              wpAny (model X.prog X.w) X.A (do bindName X.env n .none; unbindBehindTheSuite X.env n hp) (fun _ s7 => Q s7) X.xe s6 := fun K6 hq => gone_ok (K6.unsuite ok) hN hi hl hq
          cases f with
          | next => exact let ⟨σ6, H6, K6, z⟩ := sp; fin K6 fun s7 J7 => ⟨_, _, J7, z⟩
          | brk => exact let ⟨σ6, H6, K6, z⟩ := sp; fin K6 fun s7 J7 => ⟨_, _, J7, z⟩
          | cont => exact let ⟨σ6, H6, K6, z⟩ := sp; fin K6 fun s7 J7 => ⟨_, _, J7, z⟩
          | ret u => exact let ⟨v6, σ6, H6, K6, r6, z⟩ := sp; fin K6 fun s7 J7 => ⟨_, _, _, J7, r6, z⟩
    exact walk hh w
end
end Tw

set_option maxHeartbeats 2000000
namespace Tw
open PySem PySem.Spec L2
open PyProof.Rows hiding St
/-- a suite's constants: the error, its object, its dict, its name's place -/
structure Sc where
  e : Ex
  a : Addr
  dd : Addr
  i : Nat
structure XAt (Y : Cy) (S : Sc) (O : Addr → Prop) (σ : L2.St) (H : Hp) : Prop where
  sl : σ[S.i]? = some (some (.ref S.a))
  xd : ∃ vs, H S.dd = some (.xd (fKeys S.e.ks vs)) ∧ S.e.ks.length = vs.length ∧ RepL Y.G (Zo Y.Ze O) H S.e.vs vs
theorem XAt.same {Y : Cy} {S : Sc} {O : Addr → Prop} {σ : L2.St} {H H' : Hp} (h : XAt Y S O σ H) (s : Same H H') : XAt Y S O σ H' := ⟨h.sl, let ⟨vs, e1, e2, r⟩ := h.xd; ⟨vs, s _ _ e1, e2, r.same s⟩⟩
def tE (Y : Cy) (S : Sc) (f : DE) : TE := fun σ H Q => ∃ O ρ, SR Y O ρ σ H ∧ XAt Y S O σ H ∧ EPost Y O σ H Q (f ρ)
def tEw (Y : Cy) (S : Sc) (f : DE) : TE := fun σ H Q => ∃ O ρ, SR Y O ρ σ H ∧ XAt Y S O σ H ∧ EPostW Y O σ H Q (f ρ)
def tEA (Y : Cy) (S : Sc) (f : DA) : TA := fun σ H Q => ∃ O ρ, SR Y O ρ σ H ∧ XAt Y S O σ H ∧ APost Y O σ H Q (f ρ)
def tES (Y : Cy) (S : Sc) (F : DS) : TS := fun N σ H => ∃ O ρ, SR Y O ρ σ H ∧ XAt Y S O σ H ∧ SPost Y O H N (F ρ)
def PDe (X : Cx) (Y : Cy) (S : Sc) (e : Expr) (f : DE) : Prop := Lk X Y → PE X e (tE Y S f)
def PDew (X : Cx) (Y : Cy) (S : Sc) (e : Expr) (f : DE) : Prop := Lk X Y → PE X e (tEw Y S f)
def PDeA (X : Cx) (Y : Cy) (S : Sc) (es : List Expr) (f : DA) : Prop := Lk X Y → PA X es (tEA Y S f)
def PDeS (X : Cx) (Y : Cy) (S : Sc) (st : Stmt) (F : DS) : Prop := Lk X Y → PS X st (tES Y S F)
def PDeSs (X : Cx) (Y : Cy) (S : Sc) (st : List Stmt) (F : DS) : Prop := Lk X Y → PSs X st (tES Y S F)
section
variable {X : Cx} {Y : Cy} {S : Sc} {a b c e : Expr} {es : List Expr} {fa fb : DE} {fs : DA} {ga gb : DT} {G1 G2 F : DS} {st : Stmt} {rest A B : List Stmt} {pos p p2 : Pos} {O : Addr → Prop} {ρ : DEnv} {σ : L2.St} {H H1 : Hp}
theorem de_lift (h : PD X Y e fa) : PDe X Y S e fa := fun k => impPE (h k) fun σ H Q ⟨O, ρ, s, _, q⟩ => ⟨O, ρ, s, q⟩
theorem PDe.w (h : PDe X Y S e fa) : PDew X Y S e fa := fun k => impPE (h k) fun σ H Q ⟨O, ρ, s, x, q⟩ => ⟨O, ρ, s, x, EPost.w q⟩
theorem dea_nil : PDeA X Y S [] aNil := fun k => impPA pa_nil fun σ H Q ⟨O, ρ, s, _, q⟩ => q [] H (Same.refl H) rfl
theorem dea_cons (ha : PDe X Y S a fa) (hr : PDeA X Y S es fs) (hs : starEach (a :: es) X.env = (false, eval a X.env) :: starEach es X.env := by rfl) : PDeA X Y S (a :: es) (aCons fa fs) := fun k => impPA (pa_cons (ha k) (hr k) hs) fun σ H Q ⟨O, ρ, s, x, q⟩ => by
  refine ⟨O, ρ, s, x, ?_⟩
  unfold aCons at q
  cases ea : fa ρ with
  | ex e => exact (show APost Y O σ H Q (R.bind (.ex e) _) from ea ▸ q)
  | no => exact (show APost Y O σ H Q (R.bind .no _) from ea ▸ q)
  | ok dx =>
    rw [ea, R.bind_ok] at q
    intro v H1 s1 rx
    refine ⟨O, ρ, s.same s1, x.same s1, ?_⟩
    cases eb : fs ρ with
    | ex e => rw [eb] at q; exact ex_fwd s1 q
    | no => rw [eb] at q; exact q
    | ok ds =>
      rw [eb] at q
      exact fun vs H2 s2 rs => q _ H2 (s1.trans s2) (RepL.cons (rx.same s2) rs)
theorem arg_impE {g : List D → Option D} {r : List V → Hp → VK → Prop} (ho : ∀ Z H vs ds Q, (∀ a, Z a → H a ≠ none) → RepL Y.G Z H ds vs → OPost Y.G Z H Q (g ds) → r vs H Q) (σ : L2.St) (H : Hp) (Q : VK)
    (h : tE Y S (fun ρ => (fs ρ).bind fun xs => R.of (g xs)) σ H Q) : tEA Y S fs σ H (fun vs H1 => r vs H1 Q) := by
  obtain ⟨O, ρ, s, x, q⟩ := h
  refine ⟨O, ρ, s, x, ?_⟩
  have q : EPost Y O σ H Q ((fs ρ).bind fun xs => R.of (g xs)) := q
  cases ea : fs ρ with
  | ex e => rw [ea] at q; exact q
  | no => rw [ea] at q; exact q
  | ok ds =>
    rw [ea, R.bind_ok] at q
    intro vs H1 s1 rs
    refine ho _ H1 vs ds Q ((s.same s1).zt) rs ?_
    cases eg : g ds with
    | none => rw [eg] at q; exact q
    | some d => rw [eg] at q; exact fun v H3 s3 rv => q v H3 (s1.trans s3) rv
theorem de_lst (ha : PDeA X Y S es fs) : PDe X Y S (.List es pos) (eLst fs) := fun k => by
  rw [eLst_of]
  refine impPE (pe_lst (ha k)) fun σ H Q h => arg_impE (r := fun xs H1 Q => xs.length ≤ sizeLine ∧ ∀ p, H1 p = none → Q (.ref p) (upd H1 p (.lst xs))) (fun Z H vs ds Q zt rs q => ?_) σ H Q h
  split at q
  · rename_i hl
    exact ⟨(lineD_eq ▸ rs.length ▸ hl : vs.length ≤ sizeLine), fun n hn => q _ _ (same_new hn) ⟨n, _, rfl, fun z => zt n z hn, upd_same, rs.same (same_new hn)⟩⟩
  · exact q.elim
theorem dse_one (h1 : PDeS X Y S st F) : PDeSs X Y S [st] F := fun k => pss_one (h1 k)
theorem dse_ret (ha : PDe X Y S a fa) : PDeS X Y S (.Return (some a) pos) (sRet fa) := fun k => impPS (ps_ret (ha k)) fun N σ H ⟨O, ρ, s, x, q⟩ => by
  refine ⟨O, ρ, s, x, ?_⟩
  have q : SPost Y O H N ((fa ρ).st ρ fun d => .ok (.rt d ρ)) := q
  cases ea : fa ρ with
  | no => rw [ea] at q; exact q
  | ex e => rw [ea] at q; exact fun c od H1 s1 xr => q O σ H1 c od (Stp.same s1) (s.same s1) xr
  | ok d => rw [ea] at q; exact fun v H1 s1 rv => q O σ H1 v (Stp.same s1) (s.same s1) rv
end
end Tw

set_option maxHeartbeats 2000000
namespace Tw
open PySem PySem.Spec L2
open PyProof.Rows hiding St
def cvX (K : PySem.W.Frag) (c : String) : Value := if c = "ValueError" then .type "ValueError" else .ref (cmOf K c)
def ecB (K : PySem.W.Frag) (D : Addr) : Bool := (PySem.W.clsIn K D).isSome && (decide (PySem.W.findIn K (.ref D) "__getattribute__" = some (some (.builtin "BaseException.__getattribute__"))) && (decide (PySem.W.findIn K (.ref D) "__getattr__" = some none) && (decide (PySem.W.subIn K (.ref D) (.type "BaseException") = some true) &&
  (decide (PySem.W.findIn K (.ref D) "__class__" = some (some (.builtin "object.__class__"))) && (decide (PySem.W.specialIn K (.builtin "object.__class__") "__get__" = some (some (.builtin "getset_descriptor.__get__"))) && (decide (PySem.W.takesIn K (.builtin "object.__class__") = some true) && decide (PySem.W.mroIn K D (.type "object") = some true)))))))
structure EcC (K : PySem.W.Frag) (D : Addr) : Prop where
  cl : (PySem.W.clsIn K D).isSome = true
  ga : PySem.W.findIn K (.ref D) "__getattribute__" = some (some (.builtin "BaseException.__getattribute__"))
  gt : PySem.W.findIn K (.ref D) "__getattr__" = some none
  sb : PySem.W.subIn K (.ref D) (.type "BaseException") = some true
  ca : PySem.W.findIn K (.ref D) "__class__" = some (some (.builtin "object.__class__"))
  gn : PySem.W.specialIn K (.builtin "object.__class__") "__get__" = some (some (.builtin "getset_descriptor.__get__"))
  tk : PySem.W.takesIn K (.builtin "object.__class__") = some true
  ob : PySem.W.mroIn K D (.type "object") = some true
theorem ecB_ok {K : PySem.W.Frag} {D : Addr} (h : ecB K D = true) : EcC K D := by
  obtain ⟨h0, h⟩ := Bool.and_eq_true_iff.mp h
  obtain ⟨h1, h⟩ := Bool.and_eq_true_iff.mp h
  obtain ⟨h2, h⟩ := Bool.and_eq_true_iff.mp h
  obtain ⟨h3, h⟩ := Bool.and_eq_true_iff.mp h
  obtain ⟨h4, h⟩ := Bool.and_eq_true_iff.mp h
  obtain ⟨h5, h⟩ := Bool.and_eq_true_iff.mp h
  obtain ⟨h6, h7⟩ := Bool.and_eq_true_iff.mp h
  exact ⟨h0, of_decide_eq_true h1, of_decide_eq_true h2, of_decide_eq_true h3, of_decide_eq_true h4, of_decide_eq_true h5, of_decide_eq_true h6, of_decide_eq_true h7⟩
/-- the classes es may come; they are asked for the classes cs, their fields are of fs -/
structure XcsOk (K : PySem.W.Frag) (es cs : List String) (fs : List Str) : Prop where
  xf : ∀ a ∈ es, XfC K (cmOf K a)
  ec : ∀ a ∈ es, EcC K (cmOf K a)
  ex : ∀ a ∈ es, ∀ c ∈ cs, PySem.W.exmOne K (.ref (cmOf K a)) (cvX K c) = some (exSub a c)
  ki : ∀ a ∈ es, ∀ c ∈ cs, PySem.W.kitOne K (.ref (cmOf K a)) (cvX K c) = some (exSub a c)
  fl : ∀ a ∈ es, ∀ f ∈ fs, PySem.W.findIn K (.ref (cmOf K a)) f = some none
theorem cvX_ne {K : PySem.W.Frag} {c : String} (h : c ≠ "ValueError") : cvX K c = .ref (cmOf K c) := if_neg h
theorem XcsOk.exr {K : PySem.W.Frag} {es cs : List String} {fs : List Str} (W : XcsOk K es cs fs) {a c : String} (ha : a ∈ es) (hc : c ∈ cs) (h : c ≠ "ValueError") : PySem.W.exmOne K (.ref (cmOf K a)) (.ref (cmOf K c)) = some (exSub a c) := cvX_ne (K := K) h ▸ W.ex a ha c hc
def xcsB (es cs : List String) (fs : List Str) : FrB := fun K => es.all fun a => xfB K (cmOf K a) && (ecB K (cmOf K a) && ((cs.all fun c => decide (PySem.W.exmOne K (.ref (cmOf K a)) (cvX K c) = some (exSub a c)) && decide (PySem.W.kitOne K (.ref (cmOf K a)) (cvX K c) = some (exSub a c))) &&
  fs.all fun f => decide (PySem.W.findIn K (.ref (cmOf K a)) f = some none)))
theorem xcsB_ok {K : PySem.W.Frag} {es cs : List String} {fs : List Str} (h : xcsB es cs fs K = true) : XcsOk K es cs fs := by
  have g := fun a ha => Bool.and_eq_true_iff.mp (List.all_eq_true.mp h a ha)
  have g2 := fun a ha => Bool.and_eq_true_iff.mp (g a ha).2
  have g3 := fun a ha => Bool.and_eq_true_iff.mp (g2 a ha).2
  exact ⟨fun a ha => xfB_ok (g a ha).1, fun a ha => ecB_ok (g2 a ha).1, fun a ha c hc => of_decide_eq_true (Bool.and_eq_true_iff.mp (List.all_eq_true.mp (g3 a ha).1 c hc)).1,
    fun a ha c hc => of_decide_eq_true (Bool.and_eq_true_iff.mp (List.all_eq_true.mp (g3 a ha).1 c hc)).2, fun a ha f hf => of_decide_eq_true (List.all_eq_true.mp (g3 a ha).2 f hf)⟩
/-- the context of an except suite -/
def SuOk (X : Cx) (Y : Cy) (S : Sc) (es : List String) : Prop := ∃ (X0 : Cx) (oe : Obj) (pn : List (Addr × Obj)), X = X0.suite S.a ((S.a, oe) :: pn) ∧ Zc (.ref (Y.G.cm S.e.cls)) (some S.dd) oe ∧ (∃ vs, oe.data = .fields vs) ∧ S.e.cls ∈ es
section
variable {X : Cx} {Y : Cy} {S : Sc} {es es' cs : List String} {fs : List Str} {pos p p2 p3 : Pos} {n : Str}
/-- e.f -/
theorem de_xf (su : SuOk X Y S es) (W : XcsOk X.K es' cs fs) (hes : ∀ a ∈ es, a ∈ es') (hG : ∀ c, Y.G.cm c = cmOf X.K c) {f : Str} (hf : f ∈ fs) (hN : X.N[S.i]? = some n) (hvs : Vis X.env.scope n := by first | exact Or.inl rfl | exact Or.inr (Or.inl rfl) | exact Or.inr (Or.inr rfl))
    (hd : (n == ("__debug__" : Str)) = false := by decide) (hcd : (n == ("__classdict__" : Str)) = false := by decide) (hb : attributeBase (.Name n p) f X.env (eval (.Name n p) X.env) = eval (.Name n p) X.env := by rfl) :
    PDe X Y S (.Attribute (.Name n p) f pos) (eXf S.e f) := fun k => by
  obtain ⟨X0, oe, pn, rfl, hz, hv, he⟩ := su
  have he := hes _ he
  rw [hG] at hz
  refine impPE (pe_xf (X := X0) (W.xf _ he) (W.fl _ he f hf) hz hv (pe_var (X := X0.suite S.a ((S.a, oe) :: pn)) hN hvs hd hcd) hb) fun σ H Q ⟨O, ρ, s, x, q⟩ => ?_
  obtain ⟨us, h1, h2, h3⟩ := x.xd
  have lk := look_fld f h2 h3
  unfold eXf at q
  cases el : lookD S.e.ks S.e.vs f with
  | none => rw [el] at q; exact q.elim
  | some d =>
    rw [el] at q lk
    obtain ⟨v, hl, rv⟩ := lk
    exact ⟨_, x.sl, rfl, rfl, S.dd, _, v, rfl, h1, hl, q v H (Same.refl H) rv⟩
end
def Cy.su (Y : Cy) : Cy := { Y with E := fun _ _ _ _ => False, ca := false }
section
variable {X : Cx} {Y : Cy} {O : Addr → Prop} {ρ : DEnv} {σ : L2.St} {H : Hp}
theorem SR.reE {W : WX} {c : Bool} (s : SR Y O ρ σ H) : SR { Y with E := W, ca := c } O ρ σ H := let ⟨α, h⟩ := s; ⟨α, ⟨h.len, h.val, h.own, h.slf, h.gho, h.inj, h.oeq, h.zt, h.ot, h.ptr⟩⟩
theorem SR.unE {W : WX} {c : Bool} (s : SR { Y with E := W, ca := c } O ρ σ H) : SR Y O ρ σ H := let ⟨α, h⟩ := s; ⟨α, ⟨h.len, h.val, h.own, h.slf, h.gho, h.inj, h.oeq, h.zt, h.ot, h.ptr⟩⟩
/-- a name that holds nothing: any value there -/
theorem SR.any {i : Nat} {x : Option V} (s : SR Y O ρ σ H) (hi : ρ[i]? = some none) : SR Y O ρ (σ.set i x) H := by
  obtain ⟨α, s⟩ := s
  have ne : ∀ {j : Nat} {y : Slot}, ρ[j]? = some (some y) → i ≠ j := fun e z => by rw [← z, hi] at e; cases e
  refine ⟨α, ⟨by rw [List.length_set]; exact s.len, fun j d e => ?_, fun j d e => ?_, fun j d e => ?_, s.gho, s.inj, s.oeq, s.zt, s.ot, fun j e => by rw [List.getElem?_set_ne (ne e)]; exact s.ptr j e⟩⟩
  · rw [List.getElem?_set_ne (ne e)]; exact s.val j d e
  · rw [List.getElem?_set_ne (ne e)]; exact s.own j d e
  · rw [List.getElem?_set_ne (ne e)]; exact s.slf j d e
theorem Lk.su (k : Lk X Y) (a : Addr) (pn : List (Addr × Obj)) : Lk (X.suite a pn) Y.su :=
  ⟨k.K, k.ln, takes0, ⟨k.rm.dp, k.rm.un⟩, fun z => Bool.noConfusion z, k.nd, PassesOwn.never, fun z => Bool.noConfusion z⟩
theorem Lk.tr (k : Lk X Y) {W : WX} {pn : List (Addr × Obj)} {xe : Value → Shared → Prop} (tk : Takes (X.tr pn xe) W) (po : PassesOwn (model X.prog X.w) X.A X.env xe) : Lk (X.tr pn xe) { Y with E := W } :=
  ⟨k.K, k.ln, tk, k.rm, k.hd, k.nd, po, k.calm⟩
inductive HdsD (X : Cx) (Y : Cy) (es : List String) : List ExceptHandler → List Hd → Prop
  | nil : HdsD X Y es [] []
  | cons {x n : Str} {c : String} {i : Nat} {fs : Ex → DS} {s0 : Stmt} {su : List Stmt} {np hp : Pos} {hs : List ExceptHandler} {hds : List Hd} (hc : Names X x (.ref (Y.G.cm c))) (hi : X.N[i]? = some n) (hl : X.env.kindOf n = some .local)
      (hex : ∀ a ∈ es, PySem.W.exmOne X.K (.ref (Y.G.cm a)) (.ref (Y.G.cm c)) = some (exSub a c))
      (h : ∀ (e : Ex) (a dd : Addr) (oe : Obj) (pn : List (Addr × Obj)), SuOk (X.suite a ((a, oe) :: pn)) Y.su ⟨e, a, dd, i⟩ es → PDeSs (X.suite a ((a, oe) :: pn)) Y.su ⟨e, a, dd, i⟩ (s0 :: su) (fs e))
      (r : HdsD X Y es hs hds) : HdsD X Y es (.ExceptHandler (some (.Name x np)) (some n) (s0 :: su) hp :: hs) ((c, i, fs) :: hds)
def tsOf (Y : Cy) (es : List String) (i : Nat) (fs : Ex → DS) : Addr → Value → Option Addr → TS := fun a cls d N σ H => ∃ e dd, cls = .ref (Y.G.cm e.cls) ∧ d = some dd ∧ e.cls ∈ es ∧ tES Y.su ⟨e, a, dd, i⟩ (fs e) N σ H
def clOfD (Y : Cy) (es : List String) (h : Hd) : Cl := (.ref (Y.G.cm h.1), h.2.1, tsOf Y es h.2.1 h.2.2)
theorem HdsD.ok {es : List String} (k : Lk X Y) {hs : List ExceptHandler} {hds : List Hd} (h : HdsD X Y es hs hds) : ClsOk X hs (hds.map (clOfD Y es)) := by
  induction h with
  | nil => exact .nil
  | cons hc hi hl hex h r ih =>
    refine .cons hc hi hl (fun a oe cls d pn hz hf => ⟨fun pins s σ H N I q => ?_⟩) ih
    obtain ⟨e, dd, rfl, rfl, he, q⟩ := q
    exact (h e a dd oe pn ⟨X, oe, pn, rfl, hz, hf, he⟩ (k.su a _)).run pins s σ H N I q
theorem tryH_post {es : List String} {e : Ex} {N : Ends} {H0 : Hp} {O0 : Addr → Prop} (k : Lk X Y) (he : e.cls ∈ es) {hs : List ExceptHandler} {hds : List Hd} (hh : HdsD X Y es hs hds) (st : Stp O0 H0 O H) (s : SR Y O ρ σ H) {c : Value} {od : Option Addr} (xr : ExRep Y.G (Zo Y.Ze O) H e c od)
    (q : SPost Y O0 H0 N (tryH hds e ρ)) : wCl X.K Y.E N (hds.map (clOfD Y es)) c od σ H := by
  induction hh with
  | nil => exact q O σ H c od st s xr
  | @cons x n cn i fs s0 su np hp hs hds hc hi hl hex h r ih =>
    obtain ⟨rfl, dd, vs, rfl, hx1, hx2, hx3⟩ := id xr
    refine ⟨_, hex _ he, fun hb a ha => ?_, fun hb => ?_⟩
    · unfold tryH at q
      have hb : exSub e.cls cn = true := hb
      rw [if_pos hb] at q
      split at q
      · rename_i hi0
        have hlt : i < σ.length := by
          rw [s.choose_spec.len.1, ← k.ln]
          exact (List.getElem?_eq_some_iff.mp hi).1
        refine ⟨e, dd, rfl, rfl, he, O, ρ, (s.any hi0).reE, ⟨List.getElem?_set_self hlt, vs, hx1, hx2, hx3⟩, ?_⟩
        have st' : ∀ {O' : Addr → Prop} {H' : Hp}, Stp O H O' H' → Stp O0 H0 O' H' := fun z => st.trans z
        have q : SPost Y O0 H0 N (outX i (fs e ρ)) := q
        show SPost Y.su O H (goneE i N) (fs e ρ)
        cases eo : fs e ρ with
        | no => rw [eo] at q; exact q.elim
        | ex z => rw [eo] at q; exact q.elim
        | ok o =>
          rw [eo] at q
          cases o with
          | nx ρ2 =>
            unfold outX at q
            dsimp only at q
            split at q
            · rename_i h2
              exact fun O' σ' H' z s' => q O' _ H' (st' z) ((SR.unE s').any h2)
            · exact q.elim
          | rt d ρ2 => exact fun O' σ' H' v z s' rv => q O' σ' H' v (st' z) (SR.unE s') rv
          | bk ρ2 => exact q.elim
          | ct ρ2 => exact q.elim
          | xx z ρ2 => exact q.elim
      · exact q.elim
    · refine ih ?_
      unfold tryH at q
      rwa [if_neg (show ¬ exSub e.cls cn = true by rw [hb]; exact Bool.false_ne_true)] at q
theorem ds_try {es : List String} {body : List Stmt} {h0 : ExceptHandler} {hs : List ExceptHandler} {hds : List Hd} {F : DS} {pos : Pos} (hst : X.stack = X.env :: X.outer) (hfr : X.env.frame = some X.env.locals)
    (hb : ∀ (W : WX) (pn : List (Addr × Obj)) (xe : Value → Shared → Prop), PDSs (X.tr pn xe) { Y with E := W } body F) (hh : HdsD X Y es (h0 :: hs) hds) : PDS X Y (.Try body (h0 :: hs) [] [] pos) (sTry es F hds) := fun k => by
  refine impPS (ps_tryCl (tb := fun W => tDS { Y with E := W } F) hst hfr k.nd k.tk (fun W pn xe tk po => hb W pn xe (k.tr tk po)) (hh.ok k)) fun N σ H ⟨O, ρ, s, q⟩ => ?_
  refine ⟨O, ρ, s.reE (c := Y.ca), ?_⟩
  unfold sTry at q
  cases eo : F ρ with
  | no => rw [eo] at q; exact q
  | ex z => rw [eo] at q; exact q
  | ok o =>
    rw [eo] at q
    cases o with
    | nx ρ2 => exact fun O' σ' H' z s' => q O' σ' H' z (SR.unE (c := Y.ca) s')
    | bk ρ2 => exact fun O' σ' H' z s' => q O' σ' H' z (SR.unE (c := Y.ca) s')
    | ct ρ2 => exact fun O' σ' H' z s' => q O' σ' H' z (SR.unE (c := Y.ca) s')
    | rt d ρ2 => exact fun O' σ' H' v z s' rv => q O' σ' H' v z (SR.unE (c := Y.ca) s') rv
    | xx e ρ2 =>
      intro O' σ' H' c od z s' xr
      have q : SPost Y O H N (if e.cls ∈ es then tryH hds e ρ2 else .no) := q
      split at q
      · rename_i he
        exact tryH_post k he hh z (SR.unE (c := Y.ca) s') xr q
      · exact q.elim
end
end Tw

set_option maxHeartbeats 2000000
namespace Tw
open PySem PySem.Spec L2
open PyProof.Rows hiding St
section
variable {X : Cx} {A1 : Around} {pins : List (Addr × Obj)} {σ : L2.St} {C f : Addr}
end
section
variable {X : Cx} {Y : Cy} {C f : Addr} {fd : FuncData} {N ps : List Str} {x qual m : Str} {params : Arguments} {body : List Stmt} {scope : Scope} {fl : Str}
end
section
variable {X : Cx} {Y : Cy} {a : Expr} {fa : DE} {c : String} {fl : Str} {p pos : Pos}
end
end Tw

set_option maxHeartbeats 2000000
namespace Tw
open PySem PySem.Spec L2
open PyProof.Rows hiding St
section
variable {X : Cx} {Y : Cy} {a b : Expr} {fa fb : DE} {pos : Pos}
end
end Tw

set_option maxHeartbeats 2000000
namespace Tw
open PySem PySem.Spec L2
open PyProof.Rows hiding St
section
variable {X : Cx} {Y : Cy} {a b : Expr} {fa fb : DE} {apos cpos : Pos}
end
end Tw

set_option maxHeartbeats 2000000
namespace Tw
open PySem PySem.Spec L2
open PyProof.Rows hiding St
section
variable {X : Cx} {Y : Cy} {a : Expr} {ta : TE} {fa : DE} {p p2 q pos : Pos}
end
end Tw

set_option maxHeartbeats 400000
namespace Tw
open PySem PySem.Spec L2
open PyProof.Rows hiding St
section
variable {X : Cx} {Y : Cy} {a b : Expr} {fa fb : DE} {pos p p2 apos cpos pos' : Pos} {x : Str}
end
end Tw

set_option maxHeartbeats 400000
namespace Tw
open PySem PySem.Spec L2
open PyProof.Rows hiding St
def difH : D → D → Bool
  | .obj _ ks _, .obj _ ks' _ => !(ks.length == ks'.length)
  | _, _ => false
def difL : List D → List D → Bool
  | a :: l, b :: k => !(l.length == k.length) || difH a b
  | [], [] => false
  | _, _ => true
mutual
def sepD (Ls : List (List D)) : D → Bool
  | .lst l => Ls.all (difL l) && sepDs Ls l
  | .dct _ l => sepDs Ls l
  | .scr _ => false
  | .gst _ => false
  | .tup l => sepDs Ls l
  | .obj _ _ l => sepDs Ls l
  | _ => true
def sepDs (Ls : List (List D)) : List D → Bool
  | [] => true
  | d :: l => sepD Ls d && sepDs Ls l
end
theorem difH_ne {G : Gc} {Z Z0 : Addr → Prop} {H : Hp} {a b : D} {v : V} (h : Rep G Z H a v) (k : Rep G Z0 H b v) (d : difH a b = true) : False := by
  cases a <;> cases b <;> first | (cases d; done) | skip
  rename_i c ks l c' ks' l'
  obtain ⟨p, dx, vs, e, _, t, ⟨n, _⟩, _⟩ := h
  obtain ⟨p', dx', vs', e', _, t', ⟨n', _⟩, _⟩ := k
  rw [e] at e'
  cases e'
  rw [t] at t'
  have fl : ∀ (ks : List Str) (vs : List V), ks.length = vs.length → (fKeys ks vs).length = ks.length := by
    intro ks
    induction ks with
    | nil => intro vs _; cases vs <;> rfl
    | cons k ks ih =>
      intro vs h
      cases vs with
      | nil => cases h
      | cons v vs => show (fKeys ks vs).length + 1 = _; rw [ih vs (by simpa using h)]; rfl
  have e1 := fl ks vs n
  have e2 := fl ks' vs' n'
  have t2 := Option.some.inj t'
  injection t2 with _ _ t3
  rw [t3] at e1
  have : ks.length = ks'.length := e1.symm.trans e2
  simp [difH, this] at d
theorem difL_ne {G : Gc} {Z Z0 : Addr → Prop} {H : Hp} {l k : List D} {vs : List V} (h : RepL G Z H l vs) (q : RepL G Z0 H k vs) (d : difL l k = true) : False := by
  have e : l.length = k.length := h.length.trans q.length.symm
  cases l with
  | nil =>
    cases k with
    | nil => cases d
    | cons b k => cases e
  | cons a l =>
    cases k with
    | nil => cases e
    | cons b k =>
      have e : l.length = k.length := by simpa using e
      obtain ⟨v, r, ev, h1, _⟩ := h
      obtain ⟨v', r', ev', h1', _⟩ := q
      rw [ev] at ev'
      cases ev'
      simp [difL, e] at d
      exact difH_ne h1 h1' d
mutual
theorem Rep.sep {G : Gc} {Z Z' : Addr → Prop} {H : Hp} {Ls : List (List D)} (z : ∀ a, Z' a → Z a ∨ ∃ l ∈ Ls, ∃ Z0 vs, H a = some (.lst vs) ∧ RepL G Z0 H l vs) : ∀ {d : D} {v : V}, sepD Ls d = true → Rep G Z H d v → Rep G Z' H d v
  | .non, v, _, h => h
  | .bl b, v, _, h => h
  | .int i, v, _, h => h
  | .str x, v, _, h => h
  | .cls n, v, _, h => h
  | .gst j, v, n, h => by cases n
  | .scr ns, v, n, h => by cases n
  | .lst l, v, n, h => by
    have n' : (Ls.all (difL l) && sepDs Ls l) = true := by unfold sepD at n; exact n
    obtain ⟨n1, n2⟩ := Bool.and_eq_true_iff.mp n'
    obtain ⟨a, vs, e, nz, t, r⟩ := h
    refine ⟨a, vs, e, fun q => (z a q).elim nz fun ⟨k, hk, Z0, us, t2, r2⟩ => ?_, t, RepL.sep z n2 r⟩
    rw [t] at t2
    cases t2
    exact difL_ne r r2 (List.all_eq_true.mp n1 k hk)
  | .dct ks l, v, n, h => by
    obtain ⟨a, vs, e, nz, t, k, r⟩ := h
    exact ⟨a, vs, e, fun q => (z a q).elim nz fun ⟨_, _, _, us, t2, _⟩ => (by rw [t] at t2; cases t2), t, k, RepL.sep z (by simpa [sepD] using n) r⟩
  | .tup l, v, n, h => by
    obtain ⟨a, vs, e, t, r⟩ := h
    refine ⟨a, vs, e, ?_, RepL.sep z (by simpa [sepD] using n) r⟩
    rcases t with ⟨nz, t⟩ | t
    · exact .inl ⟨fun q => (z a q).elim nz fun ⟨_, _, _, us, t2, _⟩ => (by rw [t] at t2; cases t2), t⟩
    · exact .inr t
  | .obj c ks l, v, n, h => by
    obtain ⟨a, dx, vs, e, nz, t, k, r⟩ := h
    exact ⟨a, dx, vs, e, fun q => (z a q).elim nz fun ⟨_, _, _, us, t2, _⟩ => (by rw [t] at t2; cases t2), t, k, RepL.sep z (by simpa [sepD] using n) r⟩
theorem RepL.sep {G : Gc} {Z Z' : Addr → Prop} {H : Hp} {Ls : List (List D)} (z : ∀ a, Z' a → Z a ∨ ∃ l ∈ Ls, ∃ Z0 vs, H a = some (.lst vs) ∧ RepL G Z0 H l vs) : ∀ {ds : List D} {vs : List V}, sepDs Ls ds = true → RepL G Z H ds vs → RepL G Z' H ds vs
  | [], vs, _, h => h
  | d :: ds, vs, n, h => by
    obtain ⟨v, r, e, h1, h2⟩ := h
    obtain ⟨n1, n2⟩ := Bool.and_eq_true_iff.mp (by simpa [sepDs] using n)
    exact ⟨v, r, e, Rep.sep z n1 h1, RepL.sep z n2 h2⟩
end
section
variable {X : Cx} {Y : Cy} {O : Addr → Prop} {ρ : DEnv} {σ : L2.St} {H : Hp} {a : Expr} {fa : DE}
end
section
variable {is : List Nat} {a e : DE} {ρ : DEnv} {d : D} {x : Ex} {Ls : List (List D)} {l : List D} {ks : List Str} {c : String}
end
section
variable {X : Cx} {Y : Cy} {O : Addr → Prop} {ρ : DEnv} {σ : L2.St} {H : Hp} {a : Expr} {fa : DE} {p2 pos : Pos}
end
section
variable {X : Cx} {Y : Cy} {a : Expr} {ft : DT}
end
end Tw

set_option maxHeartbeats 400000
namespace Tw
open PySem PySem.Spec L2
open PyProof.Rows hiding St
section
variable {X : Cx} {Y : Cy} {elt tg iter : Expr} {ifs : List Expr} {scope : Scope} {own : List (Str × Nat)} {pos : Pos} {fi : DI} {g : DG} {c : DT} {e : DE} {is : List Nat}
end
end Tw

set_option maxHeartbeats 400000
namespace Tw
open PySem PySem.Spec L2
open PyProof.Rows hiding St
section
variable {X : Cx} {Y : Cy} {x y : Str} {p apos cpos py pos : Pos}
end
end Tw

set_option maxHeartbeats 400000
namespace Tw
open PySem PySem.Spec L2 RT
open PyProof.Rows hiding St
def iRev (a : DE) : DI := fun ρ => (a ρ).bind fun x => match x with
  | .lst l => .ok l.reverse
  | _ => .no
section
variable {X : Cx} {Y : Cy} {tg a : Expr} {fa : DE} {p pos : Pos}
end
end Tw

set_option maxHeartbeats 400000
namespace Tw
open PySem PySem.Spec L2
open PyProof.Rows hiding St
def dcL (g : DG) (c : DT) (ke ve : DE) (ρ : DEnv) : List D → List Str → List D → R (List Str × List D)
  | [], ks, ds => .ok (ks, ds)
  | x :: xs, ks, ds => match g x ρ with
    | .ok ρ' => match c ρ' with
      | .ok true => match ke ρ' with
        | .ok (.str s) => match ve ρ' with
          | .ok y => if ks.length < lineD then dcL g c ke ve ρ xs (dPutK s ks) (dPutV s y ks ds) else .no
          | _ => .no
        | _ => .no
      | .ok false => dcL g c ke ve ρ xs ks ds
      | _ => .no
    | _ => .no
def eDComp (it : DI) (vs : List Nat) (g : DG) (c : DT) (ke ve : DE) : DE := fun ρ => (it ρ).bind fun l => if l.length ≤ lineD ∧ okW vs ρ = true then (dcL g c ke ve (wipD vs ρ) l [] []).bind fun z => .ok (.dct z.1 z.2) else .no
section
variable {X : Cx} {Y : Cy} {O : Addr → Prop} {ρ : DEnv} {σ : L2.St} {H : Hp}
variable {kx vx tg iter : Expr} {ifs : List Expr} {scope : Scope} {own : List (Str × Nat)} {pos : Pos} {fi : DI} {g : DG} {c : DT} {ke ve : DE} {is : List Nat}
end
end Tw

set_option maxHeartbeats 400000
namespace Tw
open PySem PySem.Spec L2
open PyProof.Rows hiding St
def kndD : D → Nat
  | .non => 0 | .bl _ => 1 | .int _ => 2 | .str _ => 3 | .lst _ => 5 | .dct _ _ => 6 | .obj _ _ _ => 7 | _ => 4
/-- kinds that one value cannot be of at once -/
def kndNe (i j : Nat) : Bool := !(i == j) && (decide (i < 4) || decide (j < 4) || (decide (4 < i) && decide (4 < j)))
mutual
def neD : D → D → Bool
  | .lst l, .lst k => neL l k
  | .int i, .int j => !(i == j)
  | .str a, .str b => !(a == b)
  | .bl a, .bl b => !(a == b)
  | .obj _ ks l, .obj _ ks' l' => !(ks.length == ks'.length) || neL l l'
  | x, y => kndNe (kndD x) (kndD y)
def neL : List D → List D → Bool
  | [], [] => false
  | a :: l, b :: k => neD a b || neL l k
  | _, _ => true
end
end Tw

set_option maxHeartbeats 400000
namespace Tw
open PySem PySem.Spec L2
open PyProof.Rows hiding St
mutual
/-- the lists in the data -/
def subD : D → List (List D)
  | .lst l => l :: subDs l
  | .tup l => subDs l
  | .dct _ l => subDs l
  | .obj _ _ l => subDs l
  | .scr ns => [ns.map D.int]
  | _ => []
def subDs : List D → List (List D)
  | [] => []
  | d :: l => subD d ++ subDs l
end
theorem repL_ints {G : Gc} {Z : Addr → Prop} {H : Hp} : ∀ {ns : List Int}, RepL G Z H (ns.map D.int) (ns.map V.int)
  | [] => rfl
  | n :: ns => ⟨_, _, rfl, rfl, repL_ints⟩
/-- Z' holds no cell outside Z that may be leaned on -/
def CzOk (G : Gc) (Z Z' : Addr → Prop) (H : Hp) (Ls : List (List D)) : Prop := ∀ a, ¬ Z a → H a ≠ none → (∀ vs, H a = some (.lst vs) → ∃ k ∈ Ls, ∃ Z0, RepL G Z0 H k vs) → ¬ Z' a
mutual
theorem Rep.cz {G : Gc} {Z Z' : Addr → Prop} {H : Hp} {Ls : List (List D)} (c : CzOk G Z Z' H Ls) : ∀ {d : D} {v : V}, (∀ k ∈ subD d, k ∈ Ls) → Rep G Z H d v → Rep G Z' H d v
  | .non, v, _, h => h
  | .bl b, v, _, h => h
  | .int i, v, _, h => h
  | .str x, v, _, h => h
  | .cls n, v, _, h => h
  | .gst j, v, n, h => h.elim
  | .scr ns, v, n, h => by
    obtain ⟨a, e, h⟩ := h
    refine ⟨a, e, h.imp (fun ⟨nz, r⟩ => ⟨c a nz (fun q => ?_) fun vs q => ?_, r⟩) id⟩
    · rcases r with r | ⟨o, r⟩ <;> rw [q] at r <;> cases r
    · rcases r with r | ⟨o, r⟩
      · rw [q] at r
        cases r
        exact ⟨ns.map D.int, n _ (by simp [subD]), fun _ => False, repL_ints⟩
      · rw [q] at r
        cases r
  | .lst l, v, n, h => by
    obtain ⟨a, vs, e, nz, t, r⟩ := h
    exact ⟨a, vs, e, c a nz (by rw [t]; exact fun q => by cases q) fun us q => (by rw [t] at q; cases q; exact ⟨l, n _ (by simp [subD]), Z, r⟩), t, RepL.cz c (fun k hk => n k (by simp [subD, hk])) r⟩
  | .dct ks l, v, n, h => by
    obtain ⟨a, vs, e, nz, t, k, r⟩ := h
    exact ⟨a, vs, e, c a nz (by rw [t]; exact fun q => by cases q) fun us q => (by rw [t] at q; cases q), t, k, RepL.cz c (fun k hk => n k (by simpa [subD] using hk)) r⟩
  | .tup l, v, n, h => by
    obtain ⟨a, vs, e, t, r⟩ := h
    refine ⟨a, vs, e, ?_, RepL.cz c (fun k hk => n k (by simpa [subD] using hk)) r⟩
    rcases t with ⟨nz, t⟩ | t
    · exact .inl ⟨c a nz (by rw [t]; exact fun q => by cases q) fun us q => (by rw [t] at q; cases q), t⟩
    · exact .inr t
  | .obj cn ks l, v, n, h => by
    obtain ⟨a, dx, vs, e, nz, t, k, r⟩ := h
    exact ⟨a, dx, vs, e, c a nz (by rw [t]; exact fun q => by cases q) fun us q => (by rw [t] at q; cases q), t, k, RepL.cz c (fun k hk => n k (by simpa [subD] using hk)) r⟩
theorem RepL.cz {G : Gc} {Z Z' : Addr → Prop} {H : Hp} {Ls : List (List D)} (c : CzOk G Z Z' H Ls) : ∀ {ds : List D} {vs : List V}, (∀ k ∈ subDs ds, k ∈ Ls) → RepL G Z H ds vs → RepL G Z' H ds vs
  | [], vs, _, h => h
  | d :: ds, vs, n, h => by
    obtain ⟨v, r, e, h1, h2⟩ := h
    exact ⟨v, r, e, Rep.cz c (fun k hk => n k (by simp [subDs, hk])) h1, RepL.cz c (fun k hk => n k (by simp [subDs, hk])) h2⟩
end
/-- the state without the names that are not marked, nor the object under construction -/
def keep1 : Option Slot → Option Slot
  | some (.val d) => some (.val d)
  | some (.own d) => some (.own d)
  | _ => none
def keepM : List Bool → DEnv → DEnv
  | _, [] => []
  | true :: m, o :: ρ => keep1 o :: keepM m ρ
  | false :: m, _ :: ρ => none :: keepM m ρ
  | [], _ :: ρ => none :: keepM [] ρ
def subE1 : Option Slot → List (List D)
  | some (.val d) => subD d
  | some (.own d) => subDs [d]
  | _ => []
def subE : DEnv → List (List D)
  | [] => []
  | o :: ρ => subE1 o ++ subE ρ
theorem keepM_len : ∀ (m : List Bool) (ρ : DEnv), (keepM m ρ).length = ρ.length
  | _, [] => by cases ‹List Bool› with | nil => rfl | cons b m => cases b <;> rfl
  | true :: m, o :: ρ => by show (keepM m ρ).length + 1 = _; rw [keepM_len m ρ]; rfl
  | false :: m, o :: ρ => by show (keepM m ρ).length + 1 = _; rw [keepM_len m ρ]; rfl
  | [], o :: ρ => by show (keepM [] ρ).length + 1 = _; rw [keepM_len [] ρ]; rfl
theorem keep1_at {o : Option Slot} {x : Slot} (h : keep1 o = some x) : o = some x ∧ ((∃ d, x = .val d) ∨ ∃ d, x = .own d) := by
  cases o with
  | none => cases h
  | some y => cases y <;> first | (cases h; exact ⟨rfl, .inl ⟨_, rfl⟩⟩) | (cases h; exact ⟨rfl, .inr ⟨_, rfl⟩⟩) | cases h
theorem keepM_at : ∀ (m : List Bool) (ρ : DEnv) (i : Nat) (x : Slot), (keepM m ρ)[i]? = some (some x) → ρ[i]? = some (some x) ∧ ((∃ d, x = .val d) ∨ ∃ d, x = .own d)
  | m, [], i, x, h => by cases m with | nil => cases h | cons b m => cases b <;> cases h
  | true :: m, o :: ρ, 0, x, h => by
    have h : keep1 o = some x := Option.some.inj h
    obtain ⟨e, k⟩ := keep1_at h
    exact ⟨by rw [e]; rfl, k⟩
  | true :: m, o :: ρ, i + 1, x, h => keepM_at m ρ i x h
  | false :: m, o :: ρ, 0, x, h => by cases h
  | false :: m, o :: ρ, i + 1, x, h => keepM_at m ρ i x h
  | [], o :: ρ, 0, x, h => by cases h
  | [], o :: ρ, i + 1, x, h => keepM_at [] ρ i x h
theorem subE_at : ∀ {ρ : DEnv} {i : Nat} {o : Option Slot}, ρ[i]? = some o → ∀ k ∈ subE1 o, k ∈ subE ρ
  | [], i, o, h => by cases h
  | x :: ρ, 0, o, h => fun k hk => by cases h; exact List.mem_append_left _ hk
  | x :: ρ, i + 1, o, h => fun k hk => List.mem_append_right _ (subE_at (ρ := ρ) (i := i) h k hk)
def Cy.ze (Y : Cy) (Ze : Addr → Prop) : Cy := { Y with Ze := Ze }
theorem Lk.ze {X : Cx} {Y : Cy} (k : Lk X Y) (Ze : Addr → Prop) : Lk X (Y.ze Ze) := ⟨k.K, k.ln, k.tk, k.rm, k.hd, k.nd, k.po, k.calm⟩
section
variable {Y : Cy} {O : Addr → Prop} {ρ : DEnv} {σ : L2.St} {H H' : Hp}
/-- only the marked names are seen: all other cells may be forbidden -/
theorem SR.keep (m : List Bool) (s : SR Y O ρ σ H) : ∃ O' Ze', (∀ a, O' a → O a) ∧ SR (Y.ze Ze') O' (keepM m ρ) σ H ∧ (∀ a, Zo Y.Ze O a → Zo Ze' O' a) ∧
    (∀ a, H a ≠ none → ¬ Zo Ze' O' a → ∀ vs, H a = some (.lst vs) → ∃ k ∈ subE (keepM m ρ), ∃ Z0, RepL Y.G Z0 H k vs) := by
  obtain ⟨α, s⟩ := s
  let O' : Addr → Prop := fun a => ∃ i, isOwn (keepM m ρ) i ∧ α i = a
  have ow : ∀ i, isOwn (keepM m ρ) i → ∃ d, (keepM m ρ)[i]? = some (some (.own d)) ∧ ρ[i]? = some (some (.own d)) := fun i ⟨d, h⟩ => by
    rcases h with h | h | h
    · exact ⟨d, h, (keepM_at m ρ i _ h).1⟩
    · rcases (keepM_at m ρ i _ h).2 with ⟨_, e⟩ | ⟨_, e⟩ <;> cases e
    · rcases (keepM_at m ρ i _ h).2 with ⟨_, e⟩ | ⟨_, e⟩ <;> cases e
  have OO : ∀ a, O' a → O a := fun a ⟨i, h, e⟩ => by
    obtain ⟨d, _, h2⟩ := ow i h
    exact (s.oeq a).mpr ⟨i, ⟨d, .inl h2⟩, e⟩
  let C : Addr → Prop := fun a => ¬ Zo Y.Ze O a ∧ H a ≠ none ∧ ∀ vs, H a = some (.lst vs) → ∃ k ∈ subE (keepM m ρ), ∃ Z0, RepL Y.G Z0 H k vs
  let Ze' : Addr → Prop := fun a => H a ≠ none ∧ ¬ C a ∧ ¬ O' a
  have cz : CzOk Y.G (Zo Y.Ze O) (Zo Ze' O') H (subE (keepM m ρ)) := fun a nz hn hl z => by
    rcases z with z | z
    · exact z.2.1 ⟨nz, hn, hl⟩
    · exact nz (.inr (OO a z))
  refine ⟨O', Ze', OO, ⟨α, ⟨by rw [keepM_len]; exact s.len, fun i d e => ?_, fun i d e => ?_, fun i d e => ?_, fun i d e => ?_, fun i j hi hj e => ?_, fun a => Iff.rfl, fun a z => z.1, fun a z => s.ot a (OO a z), fun i e => ?_⟩⟩, fun a z => ?_, fun a hn nz vs hv => ?_⟩
  · obtain ⟨v, e1, r⟩ := s.val i d (keepM_at m ρ i _ e).1
    exact ⟨v, e1, r.cz cz (subE_at e)⟩
  · obtain ⟨e1, n, r⟩ := s.own i d (keepM_at m ρ i _ e).1
    have Oi : O' (α i) := ⟨i, ⟨d, .inl e⟩, rfl⟩
    refine ⟨e1, fun z => z.2.2 Oi, ?_⟩
    have sb := subE_at e
    cases d with
    | lst l => obtain ⟨a, vs, e, t, r⟩ := r; exact ⟨a, vs, e, t, RepL.cz cz (fun k hk => sb k (by simp [subE1, subDs, subD, hk])) r⟩
    | dct ks l => obtain ⟨a, vs, e, t, q, r⟩ := r; exact ⟨a, vs, e, t, q, RepL.cz cz (fun k hk => sb k (by simpa [subE1, subDs, subD] using hk)) r⟩
    | obj c ks l => obtain ⟨a, dx, vs, e, t, q, r⟩ := r; exact ⟨a, dx, vs, e, t, q, RepL.cz cz (fun k hk => sb k (by simpa [subE1, subDs, subD] using hk)) r⟩
    | _ => exact Rep.cz cz (fun k hk => sb k (by simpa [subE1, subDs] using hk)) r
  · rcases (keepM_at m ρ i _ e).2 with ⟨_, e⟩ | ⟨_, e⟩ <;> cases e
  · rcases (keepM_at m ρ i _ e).2 with ⟨_, e⟩ | ⟨_, e⟩ <;> cases e
  · obtain ⟨d, _, h⟩ := ow i hi
    obtain ⟨d', _, h'⟩ := ow j hj
    exact s.inj i j ⟨d, .inl h⟩ ⟨d', .inl h'⟩ e
  · rcases (keepM_at m ρ i _ e).2 with ⟨_, e⟩ | ⟨_, e⟩ <;> cases e
  · by_cases ho : O' a
    · exact .inr ho
    · exact .inl ⟨z.elim (s.zt a) (s.ot a), fun c => c.1 z, ho⟩
  · by_cases hc : C a
    · exact hc.2.2 vs hv
    · exact absurd (show Zo Ze' O' a from by
        by_cases ho : O' a
        · exact .inr ho
        · exact .inl ⟨hn, hc, ho⟩) nz
end
/-- x = e; e sees the marked names alone: its answer's list is the def's own where it is told apart from all that e saw -/
def sOwnX (i : Nat) (m : List Bool) (e : DE) : DS := fun ρ => (e (keepM m ρ)).st ρ fun d => match d with
  | .lst l => if (subDs l ++ subE (keepM m ρ)).all (neL l) then (setO i (.lst l) ρ).bind fun ρ' => .ok (.nx ρ') else (setV i (.lst l) ρ).bind fun ρ' => .ok (.nx ρ')
  | d => (setV i d ρ).bind fun ρ' => .ok (.nx ρ')
section
variable {X : Cx} {Y : Cy} {a : Expr} {fa : DE} {pos pos' : Pos}
end
end Tw
namespace Tw
open PySem PySem.Spec L2
open PyProof.Rows hiding St
/-- x.clear(), x the def's own list, or an empty one -/
def sClearE (i : Nat) : DS := fun ρ => match ρ[i]? with
  | some (some (.own (.lst _))) => .ok (.nx (ρ.set i (some (.own (.lst [])))))
  | some (some (.val (.lst []))) => .ok (.nx ρ)
  | _ => .no
section
variable {X : Cx} {Y : Cy} {x : Str} {p apos cpos pos : Pos}
end
end Tw

set_option maxHeartbeats 2000000
namespace Tw
open PySem PySem.Spec L2
open PyProof.Rows hiding St
section
variable {X : Cx} {pins : List (Addr × Obj)} {σ : L2.St} {H : Hp} {s : Shared}
/-- the heap without the cell a -/
theorem cut_heap (h : Heap) (a : Addr) : ∃ G : Heap, (∀ b, b ≠ a → G.get? b = h.get? b) ∧ G.get? a = none := by
  obtain ⟨G, g1, g2⟩ := restrict h fun b => decide (b ≠ a)
  exact ⟨G, fun b hb => g1 b (decide_eq_true hb), g2 a (decide_eq_false fun z => z rfl)⟩
/-- a pinned object is forgotten -/
theorem Inv.cut {a : Addr} {oe : Obj} {vs : Array Value} (I : Inv X ((a, oe) :: pins) σ H s) (hd : oe.data = .fields vs) (h0 : X.s_0.heap.get? a = none) (hp : ∀ p ∈ X.pn ++ pins, p.1 ≠ a) :
    ∃ G : Heap, Inv X pins σ H { s with heap := G } ∧ (∀ b o, G.get? b = some o → s.heap.get? b = some o) ∧ G.get? a = none := by
  obtain ⟨G, g1, g2⟩ := cut_heap s.heap a
  obtain ⟨pa, na, nL, nF, nc⟩ := I.pin (a, oe) (List.mem_append_right _ List.mem_cons_self)
  have up : ∀ b o, G.get? b = some o → s.heap.get? b = some o := fun b o e => by
    by_cases hb : b = a
    · rw [hb, g2] at e; cases e
    · rwa [g1 b hb] at e
  have n0 : ∀ {b : Addr} {o : Obj}, X.s_0.heap.get? b = some o → b ≠ a := fun e z => by rw [z, h0] at e; cases e
  have cell : ∀ {c : Addr} {v : Option Value}, s.heap.IsCell c v → G.IsCell c v := fun {c v} ⟨o, e, q⟩ => by
    refine ⟨o, ?_, q⟩
    have hc : c ≠ a := fun z => by
      rw [z] at e
      have e2 : s.heap.get? a = some oe := pa
      rw [e2] at e
      cases e
      rw [hd] at q
      cases q
    rw [g1 c hc]; exact e
  refine ⟨G, ⟨I.ok, I.os, I.bare, ?_, ?_, ?_, I.free, I.freeC, ?_, ?_, I.len⟩, up, g2⟩
  · have B := I.base
    refine ⟨fun b o e n h1 h2 => ?_, fun b o e n h1 h2 => ?_, B.free, fun b o e h2 => ?_, B.tups, B.frzs, B.tbls⟩
    · show G.get? b = some o
      rw [g1 b (n0 e)]; exact B.keep b o e n h1 h2
    · obtain ⟨sl, q⟩ := B.slot b o e n h1 h2
      exact ⟨sl, by show G.get? b = _; rw [g1 b (n0 e)]; exact q⟩
    · obtain ⟨o', q⟩ := B.there b o e h2
      exact ⟨o', by show G.get? b = _; rw [g1 b (n0 e)]; exact q⟩
  · obtain ⟨m, hns, hl⟩ := I.loc
    refine ⟨m, hns.at fun o e => ?_, fun i x v e1 e2 hv => ?_⟩
    · show G.get? _ = _
      rw [g1 _ (fun z => nL z.symm)]; exact e
    · obtain ⟨u, r, l⟩ := hl i x v e1 e2 hv
      refine ⟨u, r, l.imp id fun ⟨k, c, e3, e4⟩ => ⟨k, c, e3, cell e4⟩⟩
  · intro x c e
    obtain ⟨v, h⟩ := I.cell x c e
    exact ⟨v, cell h⟩
  · intro p hm
    obtain ⟨p1, p2⟩ := I.pin p (by
      rcases List.mem_append.mp hm with h | h
      · exact List.mem_append_left _ h
      · exact List.mem_append_right _ (List.mem_cons_of_mem _ h))
    exact ⟨by show G.get? _ = _; rw [g1 _ (hp p hm)]; exact p1, p2⟩
  · intro b o e
    refine (I.hok b o e).stay (fun c v hc q => ?_) (fun _ z => z) fun _ _ z => z
    have hca : c ≠ a := fun z => by
      rcases hc with rfl | hc
      · rw [z, na] at e; cases e
      · rw [z, na] at hc; cases hc
    show G.get? c = _
    rw [g1 c hca]; exact q
end
end Tw
namespace Tw
open PySem PySem.Spec L2
open PyProof.Rows hiding St
section
variable {X : Cx} {pins : List (Addr × Obj)} {σ : L2.St} {H : Hp} {s s1 : Shared}
/-- a made exception stands in the heap as a pinned object -/
theorem mkp_pin {a : Addr} {oe : Obj} {vs : Array Value} {sI : Shared} {H1 : Hp} (J : Inv X pins σ H1 sI) (k : ∀ b o, sI.heap.get? b = some o → s1.heap.get? b = some o) (hne : sI.heap.get? a = none) (ha : s1.heap.get? a = some oe) (hd : oe.data = .fields vs) (na : H1 a = none) (os : s1.os = sI.os) (ag : AllBare s1.gens) (hex : X.ex = []) :
    Inv X ((a, oe) :: pins) σ H1 s1 ∧ X.s_0.heap.get? a = none ∧ X.base.get? a = none ∧ ∀ p ∈ X.pn ++ pins, p.1 ≠ a := by
  have hx : ∀ b, b ∉ X.ex := fun b hb => by rw [hex] at hb; cases hb
  have L := J.landed (s' := s1) (B := PySem.W.hideAll sI.heap (frs X.stack)) (fun b o e hb => PySem.W.hideAll_get _ e hb) (fun b o e => k b o (PySem.W.of_hideAll _ e)) (Heap.UpToSlots.of_keeps k) os ag
  have h0 : X.s_0.heap.get? a = none := by
    cases q : X.s_0.heap.get? a with
    | none => rfl
    | some o =>
      obtain ⟨o', q2⟩ := J.base.there a o q (hx a)
      rw [hne] at q2; cases q2
  have hb : X.base.get? a = none := by
    cases q : X.base.get? a with
    | none => rfl
    | some o =>
      have := J.bk a o q
      rw [hne] at this; cases this
  have hL : a ≠ X.env.locals := fun z => by
    obtain ⟨m, hns, _⟩ := J.loc
    obtain ⟨_, _, _, ho, _⟩ := hns
    rw [← z, hne] at ho; cases ho
  have hF : a ∉ X.fs := fun hm => by
    obtain ⟨_, o, e, _⟩ := J.ok.funs.mem hm
    rw [h0] at e; cases e
  refine ⟨⟨L.ok, L.os, L.bare, L.base, L.loc, L.cell, L.free, L.freeC, fun p hp => ?_, L.hok, L.len⟩, h0, hb, fun p hp z => ?_⟩
  · rcases List.mem_append.mp hp with h | h
    · exact L.pin p (List.mem_append_left _ h)
    · rcases List.mem_cons.mp h with rfl | h
      · exact ⟨ha, na, hL, hF, fun v z => by have z : oe.data = .cell v := z; rw [hd] at z; cases z⟩
      · exact L.pin p (List.mem_append_right _ h)
  · have := (J.pin p hp).1
    rw [z, hne] at this; cases this
theorem set_at_ne {vs : Array Value} {i : Nat} {x y : Value} (hi : i ≠ 1) (h : vs[1]? = some y) : (vs.setIfInBounds i x)[1]? = some y := by
  rw [← h]; exact Array.getElem?_setIfInBounds_ne hi
end
end Tw

set_option maxHeartbeats 2000000
namespace Tw
open PySem PySem.Spec L2
open PyProof.Rows hiding St
section
variable {X : Cx} {Y : Cy} {e e2 : Expr} {es es2 : List Expr} {fs fs2 : DA} {pos pos' pos2 p p2 : Pos} {x x2 : Str} {cn cn2 : String} {ks ks2 : List Str} {j j2 : Nat}
end
end Tw

set_option maxHeartbeats 2000000
namespace Tw
open PySem PySem.Spec L2
open PyProof.Rows hiding St
section
variable {X : Cx} {Y : Cy} {a b c : Expr} {fa fb fc : DE} {apos cpos pos : Pos}
end
end Tw

set_option maxHeartbeats 2000000
namespace Tw
open PySem PySem.Spec L2
open PyProof.Rows hiding St
section
variable {P : Program} {w : World} {K : PySem.W.Frag} {mg : Str → Option Value} {base : Heap} {qual name : Str} {scope : Scope} {f cda cc C : Addr} {params : Arguments} {dV kV doc pm ct : Value} {an : Option Addr} {p0 p1 p2 apos pos pos' q1 q2 q3 q4 r1 r2 r3 r4 : Pos} {m pa pb fa fb : Str} {j k : Nat} {oc : Value} {od : Option Addr} {osl : Array (Option Value)} {fd : FuncData}
theorem fn_exc2 (hfd : fd = PySem.W.fnX name qual params (.Expr (.Call (.Attribute (.Call (.Name "super" p0) [] [] p1) "__init__" apos) [.Constant (.str m) j p2] [] pos) pos' :: [.Assign [.Attribute (.Name "self" q1) fa q2] (.Name pa q3) q4, .Assign [.Attribute (.Name "self" r1) fb r2] (.Name pb r3) r4]) scope [("__class__", cc)] dV kV doc pm an (.ref cda) ct)
    (lk : K.lookup f = some ⟨oc, od, .func fd, osl⟩) (hcd : PySem.W.codeIn K (.ref cda) qual = true) (F : XcF P K C f fd cda cc) (T : OexC K C) (S : XScope ["self", pa, pb] ["self", pa, pb] scope) (hgs : mg "super" = none)
    (na : PySem.W.findIn K (.ref C) fa = some none) (nb : PySem.W.findIn K (.ref C) fb = some none)
    (he : ∀ (A : Around) (outer : List Env) (s : Shared) (H : Hp) (E : XK), HeX p0 p1 p2 apos pos m j (cxX P w K mg base ["self", pa, pb] qual scope f cda cc A outer s H E).env)
    (d1 : ∀ y ∈ [pa, pb], (y == ("__debug__" : Str)) = false) (d2 : ∀ y ∈ [pa, pb], (y == ("__classdict__" : Str)) = false) : FnOk P w K mg base (L2.CX P w) (k + 1) f fd ["self", pa, pb] (spX C [fa, fb]) := by
  refine fn_exc (he := he) hfd lk hcd F T S hgs rfl (fun vs H Q E h => ?_) (fun vs H Q E h => ?_) (fun A outer s H vs Q E h => ?_)
  · obtain ⟨a, us, rfl, hl, _⟩ := h
    rw [List.length_cons, hl]
    rfl
  · obtain ⟨a, us, rfl, _, ha, _⟩ := h
    exact ⟨a, us, rfl, ha⟩
  · obtain ⟨a, us, rfl, hl, ha, hq⟩ := h
    obtain ⟨u, v, rfl⟩ : ∃ u v, us = [u, v] := by
      match us, hl with
      | [u, v], _ => exact ⟨u, v, rfl⟩
    have ma : pa ∈ [pa, pb] := by simp
    have mb : pb ∈ [pa, pb] := by simp
    have hs : scope.names.lookup ("self" : Str) = some .local := S.par _ List.mem_cons_self
    have sv : PE (cxX P w K mg base ["self", pa, pb] qual scope f cda cc A outer s H E) (.Name "self" q1) (tVar 0) ∧ PE (cxX P w K mg base ["self", pa, pb] qual scope f cda cc A outer s H E) (.Name "self" r1) (tVar 0) :=
      ⟨pe_var (i := 0) rfl (Or.inl hs) (by decide) (by decide), pe_var (i := 0) rfl (Or.inl hs) (by decide) (by decide)⟩
    refine ⟨_, pss_cons (ps_ost sv.1 (pe_var (i := 1) rfl (Or.inl (S.par pa (List.mem_cons_of_mem _ ma))) (d1 _ ma) (d2 _ ma))) (pss_one (ps_ost sv.2 (pe_var (i := 2) rfl (Or.inl (S.par pb (List.mem_cons_of_mem _ mb))) (d1 _ mb) (d2 _ mb)))), ?_⟩
    refine xst_first T na rfl rfl ha fun dx hd hne => ?_
    have nea : a ≠ dx := fun e => hne e.symm
    refine xst_next (dx := dx) (gs := [(fa, u)]) T nb rfl rfl upd_same (by rw [upd_ne hne, upd_same]) (Nat.le_of_ble_eq_true rfl) ?_
    refine hq dx _ hd hne (by rw [upd_ne nea, upd_same]) (by rw [upd_same]; rfl) fun b b1 b2 => ?_
    rw [upd_ne b2, upd_ne b1, upd_ne b2]
theorem xmk2 {d : DefX} {x : Str} {cn : String} {G : Gc} (X : XcA P K d) (T : OexC K (He.ga K d.cls)) (hG : G.cm cn = He.ga K d.cls) (hmx : mg x = some (.ref (He.ga K d.cls)))
    (hb : d.body = .Expr (.Call (.Attribute (.Call (.Name "super" p0) [] [] p1) "__init__" apos) [.Constant (.str m) j p2] [] pos) pos' :: [.Assign [.Attribute (.Name "self" q1) fa q2] (.Name pa q3) q4, .Assign [.Attribute (.Name "self" r1) fb r2] (.Name pb r3) r4]) (S : XScope ["self", pa, pb] ["self", pa, pb] d.scope)
    (hs : ∃ ar, (d.params.posonlyargs ++ d.params.args).head? = some ar ∧ ar.arg = "self") (ht : (P.main.scope.names.lookup ("super" : Str)).isSome = false) (hgs : mg "super" = none)
    (na : PySem.W.findIn K (.ref (He.ga K d.cls)) fa = some none) (nb : PySem.W.findIn K (.ref (He.ga K d.cls)) fb = some none)
    (hbd : ∀ (kV doc pm ct : Value) (an : Option Addr) (cc cda : Addr) (us : List Value), us.length = 3 → bindArgs (PySem.W.fnX d.name d.qual d.params d.body d.scope [("__class__", cc)] .none kV doc pm an (.ref cda) ct) ⟨us, []⟩ = pure ((["self", pa, pb] : List Str).zip us))
    (he : ∀ (f cc cda : Addr) (A : Around) (outer : List Env) (s : Shared) (H : Hp) (E : XK), HeX p0 p1 p2 apos pos m j (cxX P w K mg base ["self", pa, pb] d.qual d.scope f cda cc A outer s H E).env)
    (d1 : ∀ y ∈ [pa, pb], (y == ("__debug__" : Str)) = false) (d2 : ∀ y ∈ [pa, pb], (y == ("__classdict__" : Str)) = false) : XMk P w K mg base G x cn [fa, fb] (k + 1) := by
  obtain ⟨fd, cc, cda, kV, doc, pm, ct, an, oc, od, osl, hfd, lk, hcd, hF⟩ := X.ex
  have F := hF hs ht
  have hfd' := hfd
  rw [hb] at hfd'
  unfold XMk
  rw [hG]
  refine ⟨_, fd, ["self", pa, pb], fn_exc2 hfd' lk hcd F T S hgs na nb (he _ cc cda) d1 d2, T, X.ini, X.typ, hmx, ?_, Nat.le_of_ble_eq_true rfl⟩
  subst hfd
  exact L2.Binds.all fun us hl => hbd kV doc pm ct an cc cda us hl
end
end Tw

set_option maxHeartbeats 2000000
namespace Tw
open PySem PySem.Spec L2
open PyProof.Rows hiding St
section
variable {X : Cx} {Y : Cy} {a b : Expr} {fa fb : DE} {apos pos : Pos}
end
end Tw

set_option maxHeartbeats 0
namespace Tw
open PySem PySem.Spec PyProof.Rows L2
def top (i : Nat) : Stmt := PySem.Challenge.pw_twicebased_k17_convert_large.main.body.getD i (.Pass ⟨0, 0, 0, 0⟩)
abbrev PG : Program := PySem.Challenge.pw_twicebased_k17_convert_large
def fb : List FrB := [smB "Titled" "is_word", pmB "Declaring" "__init__", pmB "Titled" "__init__", xcsB ["Ambiguous", "DuplicateBase", "DuplicateClass", "DuplicateName", "InvalidWord", "NoCopy", "TwoWays", "UnknownClass"] ["Ambiguous", "NoCopy", "TwoWays"] ["name", "one", "other", "title"], xcB PG "Ambiguous" "Ambiguous.__init__", oexB "Ambiguous", xnB "Ambiguous" "name", xnB "Ambiguous" "one", xnB "Ambiguous" "other", xcB PG "DuplicateBase" "DuplicateBase.__init__", oexB "DuplicateBase", xnB "DuplicateBase" "title", xcB PG "DuplicateClass" "DuplicateClass.__init__", oexB "DuplicateClass", xnB "DuplicateClass" "title", xcB PG "DuplicateName" "DuplicateName.__init__", oexB "DuplicateName", xnB "DuplicateName" "name", xcB PG "InvalidWord" "InvalidWord.__init__", oexB "InvalidWord", xnB "InvalidWord" "word", xcB PG "NoCopy" "NoCopy.__init__", oexB "NoCopy", xnB "NoCopy" "title", xcB PG "TwoWays" "TwoWays.__init__", oexB "TwoWays", xnB "TwoWays" "one", xnB "TwoWays" "other", xcB PG "UnknownClass" "UnknownClass.__init__", oexB "UnknownClass", xnB "UnknownClass" "title"]
def fx : List DefX := [⟨"Ambiguous", "__init__", "Ambiguous.__init__", defArgs (L2.inClass (top 11) 0), defBody (L2.inClass (top 11) 0), defScope (L2.inClass (top 11) 0)⟩, ⟨"DuplicateBase", "__init__", "DuplicateBase.__init__", defArgs (L2.inClass (top 5) 0), defBody (L2.inClass (top 5) 0), defScope (L2.inClass (top 5) 0)⟩, ⟨"DuplicateClass", "__init__", "DuplicateClass.__init__", defArgs (L2.inClass (top 6) 0), defBody (L2.inClass (top 6) 0), defScope (L2.inClass (top 6) 0)⟩, ⟨"DuplicateName", "__init__", "DuplicateName.__init__", defArgs (L2.inClass (top 4) 0), defBody (L2.inClass (top 4) 0), defScope (L2.inClass (top 4) 0)⟩, ⟨"InvalidWord", "__init__", "InvalidWord.__init__", defArgs (L2.inClass (top 3) 0), defBody (L2.inClass (top 3) 0), defScope (L2.inClass (top 3) 0)⟩, ⟨"NoCopy", "__init__", "NoCopy.__init__", defArgs (L2.inClass (top 9) 0), defBody (L2.inClass (top 9) 0), defScope (L2.inClass (top 9) 0)⟩, ⟨"TwoWays", "__init__", "TwoWays.__init__", defArgs (L2.inClass (top 10) 0), defBody (L2.inClass (top 10) 0), defScope (L2.inClass (top 10) 0)⟩, ⟨"UnknownClass", "__init__", "UnknownClass.__init__", defArgs (L2.inClass (top 7) 0), defBody (L2.inClass (top 7) 0), defScope (L2.inClass (top 7) 0)⟩]
def fn0 : List He5.DefA := [⟨gAd "_law_row", "_law_row", "_law_row", defArgs (top 33), defBody (top 33), defScope (top 33), [], []⟩,
  ⟨gAd "_law_cell", "_law_cell", "_law_cell", defArgs (top 32), defBody (top 32), defScope (top 32), [], []⟩,
  ⟨gAd "_law_dense", "_law_dense", "_law_dense", defArgs (top 35), defBody (top 35), defScope (top 35), [], []⟩,
  ⟨gAd "_law_word", "_law_word", "_law_word", defArgs (top 34), defBody (top 34), defScope (top 34), [], []⟩,
  ⟨sAd "Titled" "is_word", "is_word", "Titled.is_word", defArgs (L2.inClass (top 20) 1), defBody (L2.inClass (top 20) 1), defScope (L2.inClass (top 20) 1), [], []⟩,
  ⟨mAd "Titled" "__init__", "__init__", "Titled.__init__", defArgs (L2.inClass (top 20) 0), defBody (L2.inClass (top 20) 0), defScope (L2.inClass (top 20) 0), [], []⟩,
  ⟨mAd "Declaring" "__init__", "__init__", "Declaring.__init__", defArgs (L2.inClass (top 22) 0), defBody (L2.inClass (top 22) 0), defScope (L2.inClass (top 22) 0), [], []⟩,
  ⟨mAd "Kind" "__init__", "__init__", "Kind.__init__", defArgs (L2.inClass (top 25) 0), defBody (L2.inClass (top 25) 0), defScope (L2.inClass (top 25) 0), [], []⟩,
  ⟨mAd "Library" "admit", "admit", "Library.admit", defArgs (L2.inClass (top 30) 1), defBody (L2.inClass (top 30) 1), defScope (L2.inClass (top 30) 1), [], []⟩,
  ⟨mAd "Library" "__init__", "__init__", "Library.__init__", defArgs (L2.inClass (top 30) 0), defBody (L2.inClass (top 30) 0), defScope (L2.inClass (top 30) 0), [.adr (dfAd "Library" "__init__" 0)], []⟩,
  ⟨mAd "Base" "__init__", "__init__", "Base.__init__", defArgs (L2.inClass (top 21) 0), defBody (L2.inClass (top 21) 0), defScope (L2.inClass (top 21) 0), [.bl false], []⟩,
  ⟨mAd "Draft" "__init__", "__init__", "Draft.__init__", defArgs (L2.inClass (top 23) 0), defBody (L2.inClass (top 23) 0), defScope (L2.inClass (top 23) 0), [], [("names", .adr (kwAd "Draft" "__init__" "names")), ("statics", .adr (kwAd "Draft" "__init__" "statics")), ("bases", .adr (kwAd "Draft" "__init__" "bases"))]⟩,
  ⟨gAd "_law_drafts", "_law_drafts", "_law_drafts", defArgs (top 36), defBody (top 36), defScope (top 36), [], []⟩,
  ⟨gAd "_law_shared", "_law_shared", "_law_shared", defArgs (top 37), defBody (top 37), defScope (top 37), [], []⟩,
  ⟨gAd "_law_walk", "_law_walk", "_law_walk", defArgs (top 41), defBody (top 41), defScope (top 41), [], []⟩,
  ⟨gAd "_law_counts", "_law_counts", "_law_counts", defArgs (top 38), defBody (top 38), defScope (top 38), [], []⟩,
  ⟨mAd "Library" "__contains__", "__contains__", "Library.__contains__", defArgs (L2.inClass (top 30) 3), defBody (L2.inClass (top 30) 3), defScope (L2.inClass (top 30) 3), [], []⟩,
  ⟨mAd "Library" "__getitem__", "__getitem__", "Library.__getitem__", defArgs (L2.inClass (top 30) 4), defBody (L2.inClass (top 30) 4), defScope (L2.inClass (top 30) 4), [], []⟩,
  ⟨mAd "Library" "__iter__", "__iter__", "Library.__iter__", defArgs (L2.inClass (top 30) 2), defBody (L2.inClass (top 30) 2), defScope (L2.inClass (top 30) 2), [], []⟩,
  ⟨gAd "few_ways", "few_ways", "few_ways", defArgs (top 13), defBody (top 13), defScope (top 13), [], []⟩]
def fn1 : List He5.DefA := [⟨gAd "decided", "decided", "decided", defArgs (top 14), defBody (top 14), defScope (top 14), [], []⟩,
  ⟨gAd "convert", "convert", "convert", defArgs (top 15), defBody (top 15), defScope (top 15), [], []⟩,
  ⟨gAd "_law_asked", "_law_asked", "_law_asked", defArgs (top 42), defBody (top 42), defScope (top 42), [], []⟩,
  ⟨gAd "_law_place", "_law_place", "_law_place", defArgs (top 39), defBody (top 39), defScope (top 39), [], []⟩,
  ⟨gAd "_law_read_way", "_law_read_way", "_law_read_way", defArgs (top 40), defBody (top 40), defScope (top 40), [], []⟩,
  ⟨gAd "law", "law", "law", defArgs (top 43), defBody (top 43), defScope (top 43), [], []⟩]
def fa0 : List He.Fa := [.free "abs", .free "all", .free "int", .free "isinstance", .free "iter", .free "len", .free "list", .free "max", .free "range", .free "str", .free "sum", .free "super", .free "tuple", .str "DIGITS" "0123456789", .str "LETTERS" "ABCDEFGHIJKLMNOPQRSTUVWXYZabcdefghijklmnopqrstuvwxyz", .int "LONGEST" 8, .glo "Ambiguous", .glo "Base", .glo "Declaring", .glo "Draft", .glo "DuplicateBase", .glo "DuplicateClass", .glo "DuplicateName", .glo "InvalidWord", .glo "Kind", .glo "Library", .glo "NoCopy", .glo "Titled", .glo "TwoWays", .glo "UnknownClass"]
def fa1 : List He.Fa := [.glo "_law_asked", .glo "_law_cell", .glo "_law_counts", .glo "_law_dense", .glo "_law_drafts", .glo "_law_place", .glo "_law_read_way", .glo "_law_row", .glo "_law_shared", .glo "_law_walk", .glo "_law_word", .glo "convert", .glo "decided", .glo "few_ways", .glo "law", .cls "Base", .noat "Base" "title", .noat "Base" "is_shared", .cls "Draft", .noat "Draft" "title", .noat "Draft" "names", .noat "Draft" "statics", .noat "Draft" "bases", .cls "Kind", .noat "Kind" "title", .noat "Kind" "names", .noat "Kind" "statics", .noat "Kind" "bases", .noat "Kind" "above", .noat "Kind" "shared_bases"]
def fa2 : List He.Fa := [.cls "Library", .noat "Library" "kinds", .noat "Library" "places", .noat "Library" "names", .mkr "Base", .mkr "Draft", .mkr "Kind", .mkr "Library", .meth "Library" "__contains__", .meth "Library" "__getitem__", .meth "Library" "__iter__", .meth "Library" "admit"]
def nm0 : List Str := ["_wall", "HierarchyError", "InvalidWord", "DuplicateName", "DuplicateBase", "DuplicateClass", "UnknownClass", "InvalidLine", "NoCopy", "TwoWays", "Ambiguous", "few_ways", "decided", "convert", "LETTERS", "DIGITS", "LONGEST", "Titled", "Base", "Declaring", "Draft", "Kind", "parsed_head", "parsed_tail", "parsed_line", "written_line", "Library", "_law_cell", "_law_row", "_law_word"]
def nm1 : List Str := ["_law_dense", "_law_drafts", "_law_shared", "_law_counts", "_law_place", "_law_read_way", "_law_walk", "_law_asked"]
def fn : List He5.DefA := fn0 ++ (fn1)
def fa : List He.Fa := fa0 ++ (fa1 ++ (fa2))
def nm : List Str := nm0 ++ (nm1)
abbrev RW : PySem.W.OpenRow := PySem.W.OpenLaw.row PySem.Challenge.rw_twicebased_k17_convert_large
abbrev hkT : PySem.W.Hook := hookX 5 fb fa fn fx
def obT (s : PySem.W.SharedT) : AlX := obsXG 5 fb fa fn fx (HandSHeadRun.getT s)
theorem obT_eq (s : PySem.W.SharedT) : obT s = hkT.obs s.abs := obsXG_eq (HandSHeadRun.getT_eq s)
theorem runT (w : World) : HandSHeadRun.RunEq RW (PySem.W.view RW.prog [43]) hkT obT 30000 nm w := by
  intro os
  kernel_rfl
end Tw

set_option maxHeartbeats 2000000
namespace Tw
open PySem PySem.Spec L2 L2H
open PyProof.Rows hiding St
/-- the context of an exception's __init__, p handled -/
def cxXH (P : Program) (w : World) (K : PySem.W.Frag) (mg : Str → Option Value) (base : Heap) (N : List Str) (qual : Str) (scope : Scope) (f cda cc : Addr) (A : Around) (outer : List Env) (s : Shared) (H : Hp) (E : XK) (p : Addr × Obj) : Cx :=
  { cxX P w K mg base N qual scope f cda cc A outer s H E with calm := false, pn := [p] }
section
variable {P : Program} {w : World} {K : PySem.W.Frag} {mg : Str → Option Value} {base hp0 : Heap} {N ps : List Str} {qual name : Str} {scope : Scope} {f cda cc D : Addr} {A : Around} {outer : List Env} {s : Shared} {H : Hp} {E : XK} {us : List Value} {vs : List V}
theorem inv_startXH {p : Addr × Obj} (KC : ∃ o v, K.lookup cc = some o ∧ o.data = .cell v) (S : XScope N ps scope) (hpin : PinOk outer H s p) (e0 : Env0 P w K mg base A outer s H) (hl : vs.length = ps.length) (r : Vals vs us) (tk : Nat)
    (hns : hp0.Ns s.heap.objs.size (fun x => (ps.zip us).reverse.lookup x)) (hk : ∀ b o, s.heap.get? b = some o → hp0.get? b = some o) :
    Inv (cxXH P w K mg base N qual scope f cda cc A outer s H E p) [] (L2.start N vs) H { s with heap := hp0, toks := tk } := by
  have hpl : ps.length ≤ N.length := by have := congrArg List.length S.pre; rw [List.length_take] at this; omega
  obtain ⟨oc, v0, lcc, dcc⟩ := KC
  have bcc := e0.mod.kin _ _ lcc
  have Hcc := (e0.bs _ _ bcc).2
  have scc := (e0.bs _ _ bcc).1
  have one : ∀ {y : Str} {c : Addr}, ([("__class__", cc)] : List (Str × Addr)).lookup y = some c → y = "__class__" ∧ c = cc := fun {y c} z => by
    rw [List.lookup_cons] at z
    split at z
    · rename_i q
      exact ⟨eq_of_beq q, (Option.some.inj z).symm⟩
    · cases z
  have noA : ∀ b : Addr, b ∉ (cxXH P w K mg base N qual scope f cda cc A outer s H E p).ex := fun b z => absurd (show b ∈ ([] : List Addr) from z) (by simp)
  refine ⟨⟨e0.mod, S.kind, rfl, rfl, Nat.le_refl _, fun y z c h1 h2 => ?_, fun y hy => ?_, fun y c hf hc => ?_, fun z => (by cases z), Around.frames_deeper e0.frames, .inr ⟨rfl, rfl⟩, fun b z => absurd z (noA b), e0.bs, e0.bsz, fun b _ _ => noA b, fun b z => absurd z (noA b), e0.funs, e0.frf⟩,
    rfl, e0.bare, Un.kept hk, ⟨_, hns, fun i y v h1 h2 h3 => ?_⟩, fun y c hc => ?_, e0.hok.fresh (Nat.le_refl _), fun y c hc => ?_, fun q hq => ?_, e0.hok.kept hk, ?_⟩
  · rw [(one h1).1, (one h2).1]
  · have hy : scope.names.lookup y = some .cell ∨ scope.names.lookup y = some .free := hy
    rcases hy with hy | hy
    · exact absurd rfl (S.nocell _ (PySem.mem_of_lookup hy))
    · have := S.free _ (PySem.mem_of_lookup hy) rfl
      have this : y = "__class__" := this
      subst this
      refine ⟨cc, ?_⟩
      show List.lookup ("__class__" : Str) [(("__class__" : Str), cc)] = some cc
      exact List.lookup_cons_self
  · have hc' := (one hc).1
    subst hc'
    have hf : (!(("__class__" : Str) == ("__class__" : Str))) = true := hf
    rw [beq_self_eq_true] at hf
    cases hf
  · have hi : i < vs.length := by
      unfold L2.start at h2
      by_cases hi : i < vs.length
      · exact hi
      · rw [List.getElem?_append_right (by simpa using hi), List.getElem?_replicate] at h2
        split at h2 <;> cases h2
    have ha : vs[i]? = some v := by
      unfold L2.start at h2
      rw [List.getElem?_append_left (by simpa using hi), List.getElem?_map] at h2
      cases e : vs[i]? with
      | none => rw [e] at h2; cases h2
      | some a => rw [e] at h2; cases h2; rfl
    obtain ⟨u, hu, rv⟩ := r.get ha
    have hp : ps[i]? = some y := by
      rw [← S.pre, List.getElem?_take_of_lt (by omega)]; exact h1
    have ndP : ps.Nodup := by rw [← S.pre]; exact S.nd.sublist (List.take_sublist _ _)
    exact ⟨u, rv, .inl ⟨S.par y (List.mem_of_getElem? hp), rev_zip ndP hp hu⟩⟩
  · obtain ⟨rfl, rfl⟩ := one hc
    exact ⟨v0, _, hk _ _ scc, dcc⟩
  · obtain ⟨rfl, rfl⟩ := one hc
    exact Hcc
  · obtain rfl : q = p := List.mem_singleton.mp (show q ∈ [p] from hq)
    exact ⟨hk _ _ hpin.get, hpin.free, Nat.ne_of_lt (Heap.lt_size hpin.get), hpin.nofs, hpin.nocell⟩
  · unfold L2.start
    show _ = N.length
    rw [List.length_append, List.length_map, List.length_replicate]
    omega
theorem fn_excH {params : Arguments} {dV kV doc pm ct : Value} {an : Option Addr} {rest : List Stmt} {p0 p1 p2 apos pos pos' : Pos} {m : Str} {j k : Nat} {sp : Sp} {oc : Value} {od : Option Addr} {osl : Array (Option Value)} {fd : FuncData}
    (hfd : fd = PySem.W.fnX name qual params (.Expr (.Call (.Attribute (.Call (.Name "super" p0) [] [] p1) "__init__" apos) [.Constant (.str m) j p2] [] pos) pos' :: rest) scope [("__class__", cc)] dV kV doc pm an (.ref cda) ct)
    (lk : K.lookup f = some ⟨oc, od, .func fd, osl⟩) (hcd : PySem.W.codeIn K (.ref cda) qual = true) (F : XcF P K D f fd cda cc) (T : OexC K D) (S : XScope N ps scope) (hgs : mg "super" = none) (hp0 : ps[0]? = some ("self" : Str))
    (len : ∀ vs H Q E, sp vs H Q E → vs.length = ps.length) (hat : ∀ vs H Q E, sp vs H Q E → ∃ a us, vs = .ref a :: us ∧ H a = some (exo a D none))
    (hrest : ∀ (A : Around) (outer : List Env) (s : Shared) (H : Hp) (vs : List V) (Q : VK) (E : XK) (p : Addr × Obj), sp vs H Q E → ∃ t, PSs (cxXH P w K mg base N qual scope f cda cc A outer s H E p) rest t ∧ t { nx := fun _ H' => Q .non H', rt := Q } (L2.start N vs) H)
    (he : ∀ (A : Around) (outer : List Env) (s : Shared) (H : Hp) (E : XK), HeX p0 p1 p2 apos pos m j (cxX P w K mg base N qual scope f cda cc A outer s H E).env) :
    FnH P w K mg base (L2.CX P w) (k + 1) f fd ps sp := by
  refine ⟨len, fun A outer s H args us vs Q E p hr hot hpin e0 hb r hsp => ?_⟩
  have hl := len _ _ _ _ hsp
  have KX : K.In s.heap := e0.mod.kin.keeps fun b o e => (e0.bs b o e).1
  have lim : s.heap.NoLimit := e0.mod.nolimit.keeps fun b o e => (e0.bs b o e).1
  obtain ⟨a, us', rfl, ha⟩ := hat _ _ _ _ hsp
  obtain ⟨cl1, cl2, cl3, hcell⟩ := F.cell
  obtain ⟨t, ht, hq⟩ := hrest A outer s H _ Q E p hsp
  have F' := F
  subst hfd
  refine PySem.ks_codeAny_call_defAt (binds := ps.zip us) hr.depth (KX _ _ lk) rfl lim (PySem.W.codeRec_of KX hcd) rfl hb S.nocell (fun y hy => S.par y.1 (List.of_mem_zip (show (y.1, y.2) ∈ ps.zip us from hy)).1) (fun h0 hns hk => ?_) S.co S.gen S.kind
  have I := inv_startXH (p := p) (qual := qual) (f := f) (cda := cda) (cc := cc) (E := E) (N := N) (hp0 := h0) ⟨_, _, hcell, rfl⟩ S hpin e0 hl r (s.toks + (ps.zip us).length) hns hk
  have hi : (L2.start N (V.ref a :: us'))[0]? = some (some (.ref a)) := start_get rfl
  have hN : N[0]? = some ("self" : Str) := by
    have := S.pre
    rw [← this, List.getElem?_take] at hp0
    split at hp0
    · exact hp0
    · cases hp0
  have hs : scope.names.lookup ("self" : Str) = some .local := S.par _ (List.mem_of_getElem? hp0)
  refine PySem.ks_wpAt_execs_cons (PySem.ks_wpAt_Expr_any ?_ (hi := by
    have hkk : (cxXH P w K mg base N qual scope f cda cc A outer s H E p).env.scope.kind = .function := S.kind
    show interactive (cxXH P w K mg base N qual scope f cda cc A outer s H E p).env = false
    unfold interactive
    rw [hkk]
    rfl))
  refine super_init (X := cxXH P w K mg base N qual scope f cda cc A outer s H E p) F' T I hgs S.sup S.dcl hs rfl rfl (List.lookup_cons_self) hN hi ha (he A outer s H E) rfl fun s2 I2 => ?_
  refine wpAt_of_wpAny (wpAny_mono (ht.run [] s2 _ H _ I2 hq) (fun fl s3 hs3 => ?_) fun e s3 hs3 => hs3)
  have fin : ∀ {σ' : L2.St} {H' : Hp} {v : V} {u : Value}, Inv (cxXH P w K mg base N qual scope f cda cc A outer s H E p) [] σ' H' s3 → RelV v u → Q v H' → CE outer P w H s Q u s3 :=
    fun {σ' H' v u} J rv q => ⟨v, H', J.os, J.bare, J.base, J.hok, rv, q⟩
  cases fl with
  | ret u =>
    obtain ⟨v, σ', H', J, rv, q⟩ := hs3
    exact fin J rv q
  | next =>
    obtain ⟨σ', H', J, q⟩ := hs3
    exact fin (v := V.non) (u := Value.none) J rfl q
  | brk => exact hs3.elim fun _ z => z.elim fun _ z => z.2.elim
  | cont => exact hs3.elim fun _ z => z.elim fun _ z => z.2.elim
end
section
variable {P : Program} {w : World} {K : PySem.W.Frag} {mg : Str → Option Value} {base : Heap} {qual name : Str} {scope : Scope} {f cda cc C : Addr} {params : Arguments} {dV kV doc pm ct : Value} {an : Option Addr} {p0 p1 p2 apos pos pos' q1 q2 q3 q4 r1 r2 r3 r4 s1 s2 s3 s4 : Pos} {m pa pb pc fa fb fc : Str} {j k : Nat} {oc : Value} {od : Option Addr} {osl : Array (Option Value)} {fd : FuncData}
theorem fn_exc3H (hfd : fd = PySem.W.fnX name qual params (.Expr (.Call (.Attribute (.Call (.Name "super" p0) [] [] p1) "__init__" apos) [.Constant (.str m) j p2] [] pos) pos' :: [.Assign [.Attribute (.Name "self" q1) fa q2] (.Name pa q3) q4, .Assign [.Attribute (.Name "self" r1) fb r2] (.Name pb r3) r4, .Assign [.Attribute (.Name "self" s1) fc s2] (.Name pc s3) s4]) scope [("__class__", cc)] dV kV doc pm an (.ref cda) ct)
    (lk : K.lookup f = some ⟨oc, od, .func fd, osl⟩) (hcd : PySem.W.codeIn K (.ref cda) qual = true) (F : XcF P K C f fd cda cc) (T : OexC K C) (S : XScope ["self", pa, pb, pc] ["self", pa, pb, pc] scope) (hgs : mg "super" = none)
    (na : PySem.W.findIn K (.ref C) fa = some none) (nb : PySem.W.findIn K (.ref C) fb = some none) (nc : PySem.W.findIn K (.ref C) fc = some none)
    (he : ∀ (A : Around) (outer : List Env) (s : Shared) (H : Hp) (E : XK), HeX p0 p1 p2 apos pos m j (cxX P w K mg base ["self", pa, pb, pc] qual scope f cda cc A outer s H E).env)
    (d1 : ∀ y ∈ [pa, pb, pc], (y == ("__debug__" : Str)) = false) (d2 : ∀ y ∈ [pa, pb, pc], (y == ("__classdict__" : Str)) = false) : FnH P w K mg base (L2.CX P w) (k + 1) f fd ["self", pa, pb, pc] (spX C [fa, fb, fc]) := by
  refine fn_excH (he := he) hfd lk hcd F T S hgs rfl (fun vs H Q E h => ?_) (fun vs H Q E h => ?_) (fun A outer s H vs Q E p h => ?_)
  · obtain ⟨a, us, rfl, hl, _⟩ := h
    rw [List.length_cons, hl]
    rfl
  · obtain ⟨a, us, rfl, _, ha, _⟩ := h
    exact ⟨a, us, rfl, ha⟩
  · obtain ⟨a, us, rfl, hl, ha, hq⟩ := h
    obtain ⟨u, v, w', rfl⟩ : ∃ u v w', us = [u, v, w'] := by
      match us, hl with
      | [u, v, w'], _ => exact ⟨u, v, w', rfl⟩
    have ma : pa ∈ [pa, pb, pc] := by simp
    have mb : pb ∈ [pa, pb, pc] := by simp
    have mc : pc ∈ [pa, pb, pc] := by simp
    have hs : scope.names.lookup ("self" : Str) = some .local := S.par _ List.mem_cons_self
    have sv : ∀ pos, PE (cxXH P w K mg base ["self", pa, pb, pc] qual scope f cda cc A outer s H E p) (.Name "self" pos) (tVar 0) := fun pos => pe_var (i := 0) rfl (Or.inl hs) (by decide) (by decide)
    refine ⟨_, pss_cons (ps_ost (sv _) (pe_var (i := 1) rfl (Or.inl (S.par pa (List.mem_cons_of_mem _ ma))) (d1 _ ma) (d2 _ ma))) (pss_cons (ps_ost (sv _) (pe_var (i := 2) rfl (Or.inl (S.par pb (List.mem_cons_of_mem _ mb))) (d1 _ mb) (d2 _ mb))) (pss_one (ps_ost (sv _) (pe_var (i := 3) rfl (Or.inl (S.par pc (List.mem_cons_of_mem _ mc))) (d1 _ mc) (d2 _ mc))))), ?_⟩
    refine xst_first T na rfl rfl ha fun dx hd hne => ?_
    have nea : a ≠ dx := fun e => hne e.symm
    refine xst_next (dx := dx) (gs := [(fa, u)]) T nb rfl rfl upd_same (by rw [upd_ne hne, upd_same]) (Nat.le_of_ble_eq_true rfl) ?_
    refine xst_next (dx := dx) (gs := [(fb, v), (fa, u)]) T nc rfl rfl (by rw [upd_ne nea, upd_same]) (by rw [upd_same]) (Nat.le_of_ble_eq_true rfl) ?_
    refine hq dx _ hd hne (by rw [upd_ne nea, upd_ne nea, upd_same]) (by rw [upd_same]; rfl) fun b b1 b2 => ?_
    rw [upd_ne b2, upd_ne b2, upd_ne b1, upd_ne b2]
/-- the making of such an exception while another one is handled -/
def XMkH (P : Program) (w : World) (K : PySem.W.Frag) (mg : Str → Option Value) (base : Heap) (G : Gc) (x : Str) (cn : String) (fs : List Str) (j : Nat) : Prop :=
  ∃ f fd ps, FnH P w K mg base (L2.CX P w) j f fd ps (spX (G.cm cn) fs) ∧ OexC K (G.cm cn) ∧ PySem.W.findIn K (.ref (G.cm cn)) "__init__" = some (some (.ref f)) ∧ PySem.W.typeIn K (.ref f) = some (.type "function") ∧ mg x = some (.ref (G.cm cn)) ∧ Binds K fd ps [] ∧ fs.length ≤ 900
theorem xmk3H {d : DefX} {x : Str} {cn : String} {G : Gc} (X : XcA P K d) (T : OexC K (He.ga K d.cls)) (hG : G.cm cn = He.ga K d.cls) (hmx : mg x = some (.ref (He.ga K d.cls)))
    (hb : d.body = .Expr (.Call (.Attribute (.Call (.Name "super" p0) [] [] p1) "__init__" apos) [.Constant (.str m) j p2] [] pos) pos' :: [.Assign [.Attribute (.Name "self" q1) fa q2] (.Name pa q3) q4, .Assign [.Attribute (.Name "self" r1) fb r2] (.Name pb r3) r4, .Assign [.Attribute (.Name "self" s1) fc s2] (.Name pc s3) s4]) (S : XScope ["self", pa, pb, pc] ["self", pa, pb, pc] d.scope)
    (hs : ∃ ar, (d.params.posonlyargs ++ d.params.args).head? = some ar ∧ ar.arg = "self") (ht : (P.main.scope.names.lookup ("super" : Str)).isSome = false) (hgs : mg "super" = none)
    (na : PySem.W.findIn K (.ref (He.ga K d.cls)) fa = some none) (nb : PySem.W.findIn K (.ref (He.ga K d.cls)) fb = some none) (nc : PySem.W.findIn K (.ref (He.ga K d.cls)) fc = some none)
    (hbd : ∀ (kV doc pm ct : Value) (an : Option Addr) (cc cda : Addr) (us : List Value), us.length = 4 → bindArgs (PySem.W.fnX d.name d.qual d.params d.body d.scope [("__class__", cc)] .none kV doc pm an (.ref cda) ct) ⟨us, []⟩ = pure ((["self", pa, pb, pc] : List Str).zip us))
    (he : ∀ (f cc cda : Addr) (A : Around) (outer : List Env) (s : Shared) (H : Hp) (E : XK), HeX p0 p1 p2 apos pos m j (cxX P w K mg base ["self", pa, pb, pc] d.qual d.scope f cda cc A outer s H E).env)
    (d1 : ∀ y ∈ [pa, pb, pc], (y == ("__debug__" : Str)) = false) (d2 : ∀ y ∈ [pa, pb, pc], (y == ("__classdict__" : Str)) = false) : XMkH P w K mg base G x cn [fa, fb, fc] (k + 1) := by
  obtain ⟨fd, cc, cda, kV, doc, pm, ct, an, oc, od, osl, hfd, lk, hcd, hF⟩ := X.ex
  have F := hF hs ht
  have hfd' := hfd
  rw [hb] at hfd'
  unfold XMkH
  rw [hG]
  refine ⟨_, fd, ["self", pa, pb, pc], fn_exc3H hfd' lk hcd F T S hgs na nb nc (he _ cc cda) d1 d2, T, X.ini, X.typ, hmx, ?_, Nat.le_of_ble_eq_true rfl⟩
  subst hfd
  exact L2.Binds.all fun us hl => hbd kV doc pm ct an cc cda us hl
end
end Tw

set_option maxHeartbeats 2000000
namespace Tw
open PySem PySem.Spec L2 L2H HotX
open PyProof.Rows hiding St
section
variable {X : Cx} {pins : List (Addr × Obj)} {σ : L2.St} {H : Hp} {s : Shared}
theorem from_endsH {W : WX} {a x1 : Addr} {oe ob : Obj} {vs vb : Array Value} {cls clb : Value} {d : Option Addr} {sI : Shared} {H2 : Hp} {s2 : Shared} {Q : Flow → Shared → Prop} (tk : L2.Takes X W) (hot : HotAt X.A x1 s2.heap) (hx : x1 ≠ a) (J2 : Inv X ((a, oe) :: pins) σ H2 sI) (k2 : ∀ c o, sI.heap.get? c = some o → s2.heap.get? c = some o)
    (hd : oe.data = .fields vs) (hsz : 4 < vs.size) (h1 : vs[1]? = some .none) (hz : Zc cls d oe) (r : Raises X cls) (h0 : X.s_0.heap.get? a = none) (hb0 : X.base.get? a = none) (hp : ∀ p ∈ X.pn ++ pins, p.1 ≠ a)
    (hgb : s2.heap.get? x1 = some ob) (hdb : ob.data = .fields vb) (hcb : ob.cls = clb) (rb : Raises X clb) (hbb : X.base.get? x1 = none) (os2 : s2.os = sI.os) (ag2 : AllBare s2.gens) (w : W cls d σ H2) :
    wpAny (model X.prog X.w) X.A (raiseFrom (.ref a) (.ref x1) X.env) Q X.xe s2 := by
  have ea := (J2.pin (a, oe) (List.mem_append_right _ List.mem_cons_self))
  have kb : ∀ c o, X.base.get? c = some o → s2.heap.get? c = some o := fun c o e => k2 c o (J2.bk c o e)
  have RA : RaiseAt (model X.prog X.w) X.base s2.heap a oe vs cls := ⟨k2 a oe ea.1, hz.1, hd, kb, hb0, (r _ _ J2.mod.kin).1, (r _ _ J2.mod.kin).2⟩
  have RB : RaiseAt (model X.prog X.w) X.base s2.heap x1 ob vb clb := ⟨hgb, hcb, hdb, kb, hbb, (rb _ _ J2.mod.kin).1, (rb _ _ J2.mod.kin).2⟩
  have R2 := (RA.set 3 (.ref x1)).set 4 (.bool true)
  obtain ⟨G, JG, up, ga⟩ := Inv.cut J2 hd h0 hp
  have v1 : ((vs.setIfInBounds 3 (Value.ref x1)).setIfInBounds 4 (Value.bool true))[1]? = some .none := set_at_ne (by decide) (set_at_ne (by decide) h1)
  have R3 := R2.set 2 (.ref x1)
  have hx' : a ≠ x1 := fun z => hx z.symm
  refine raise_from_tree RA hsz (.inr ⟨x1, ob, vb, clb, rfl, X.base, RB⟩) (setFlight_fresh (s := { s2 with heap := (s2.heap.update a (Obj.mapFields (·.setIfInBounds 3 (Value.ref x1)))).update a (Obj.mapFields (·.setIfInBounds 4 (.bool true))) }) R2.at_ R2.dat v1
    (raiseNew_hot (s := { s2 with heap := (s2.heap.update a (Obj.mapFields (·.setIfInBounds 3 (Value.ref x1)))).update a (Obj.mapFields (·.setIfInBounds 4 (.bool true))) }) (x1 := x1) ?_ hx R2.at_ R2.dat ?_ (tk _ _ ?_)))
  · obtain ⟨q1, o, v, q2, q3, q4⟩ := hot
    refine ⟨q1, o, v, ?_, q3, q4⟩
    show ((s2.heap.update a _).update a _).get? x1 = some o
    rw [Heap.get?_update_other _ _ hx', Heap.get?_update_other _ _ hx']
    exact q2
  · simp only [Array.size_setIfInBounds]; omega
  · refine XE.new (s' := { s2 with heap := ((s2.heap.update a (Obj.mapFields (·.setIfInBounds 3 (Value.ref x1)))).update a (Obj.mapFields (·.setIfInBounds 4 (.bool true)))).update a (Obj.mapFields (·.setIfInBounds 2 (.ref x1))) }) JG (fun c o e => ?_) ga R3.at_ ⟨?_, ?_⟩ R3.dat (set_at_ne (by decide) v1) ea.2.1 os2 ag2 w
    · have hca : a ≠ c := fun z => by
        have e : G.get? c = some o := e
        rw [← z, ga] at e; cases e
      show (((s2.heap.update a _).update a _).update a _).get? c = some o
      rw [Heap.get?_update_other _ _ hca, Heap.get?_update_other _ _ hca, Heap.get?_update_other _ _ hca]
      exact k2 c o (up c o e)
    · rw [Obj.cls_mapFields, Obj.cls_mapFields, Obj.cls_mapFields]; exact hz.1
    · rw [HandSPX.dict_mapFields, HandSPX.dict_mapFields, HandSPX.dict_mapFields]; exact hz.2
/-- what is known of the handled error p -/
structure HotE (X : Cx) (p : Addr × Obj) (clb : Value) : Prop where
  hot : Hot1 X.A p
  mem : p ∈ X.pn
  cls : p.2.cls = clb
  rs : Raises X clb
  base : X.base.get? p.1 = none
theorem HotE.c {p : Addr × Obj} {clb : Value} (h : HotE X p clb) : HotC X := ⟨p, h.hot, h.mem⟩
/-- raise X(..) from n, n the handled error -/
theorem ps_raiseFromH {W : WX} {e1 : Expr} {t1 : L2.St → Hp → XK → Prop} {n : Str} {i : Nat} {np pos : Pos} {p : Addr × Obj} {clb : Value} (hh : HotE X p clb) (hex : X.ex = []) (tk : L2.Takes X W) (h1 : PMk5 X e1 t1) (h2 : PE X (.Name n np) (tVar i)) :
    PS X (.Raise (some e1) (some (.Name n np)) pos) (fun _ σ H => σ[i]? = some (some (.ref p.1)) ∧ t1 σ H fun cls d H1 => W cls d σ H1) := by
  refine ⟨fun pins s σ H D I h => ?_⟩
  obtain ⟨hs, h⟩ := h
  refine wpAny_Raise_from (wpAny_mono (h1 pins s σ H _ I h) (fun u s1 hu => ?_) fun _ _ z => z)
  obtain ⟨⟨a, oe, vs, sI, H1, cls, d, rfl, J, k, hne, ha, hz, hd, hv1, na, os, ag, r, q⟩, hbig⟩ := hu
  obtain ⟨I1, h0, hb0, hp⟩ := mkp_pin J k hne ha hd na os ag hex
  have nap : p.1 ≠ a := hp p (List.mem_append_left _ hh.mem)
  refine wpAny_mono (h2.run ((a, oe) :: pins) s1 σ H1 (fun v H' => v = .ref p.1 ∧ H' = H1) I1 ⟨_, hs, rfl, rfl⟩) (fun u s2 hu => ?_) fun _ _ z => z
  obtain ⟨v, H2, I2, rv, rfl, rfl⟩ := hu
  obtain rfl : u = Value.ref p.1 := rv
  have P2 := (I2.pin p (List.mem_append_left _ hh.mem)).1
  obtain ⟨q1, v1, q2, q3⟩ := hh.hot
  exact from_endsH tk ⟨q1, p.2, v1, P2, q2, q3⟩ nap I2 (fun _ _ z => z) hd (hbig a oe vs rfl ha hd) hv1 ⟨hz.1, hz.2.1⟩ r h0 hb0 hp P2 q2 hh.cls hh.rs hh.base rfl I2.bare q
end
end Tw

set_option maxHeartbeats 2000000
namespace Tw
open PySem PySem.Spec L2 L2H HotX
open PyProof.Rows hiding St
theorem objOk_there {P : Program} {w : World} {H : Hp} {h : Heap} {a : Addr} {o : HO} (x : ObjOk P w H h a o) : ∃ u, h.get? a = some u := by
  cases o with
  | lst xs => obtain ⟨_, _, _, _, e⟩ := x; exact ⟨_, e⟩
  | tup xs => obtain ⟨_, _, _, n, e, _⟩ := x; exact ⟨_, e⟩
  | dK kvs => obtain ⟨_, _, _, _, o, _, _, e, _⟩ := x; exact ⟨_, e⟩
  | dT kvs => obtain ⟨_, _, _, _, o, _, _, e, _⟩ := x; exact ⟨_, e⟩
  | set S n => obtain ⟨o, _, _, _, e, _⟩ := x; exact ⟨_, e⟩
  | ins C dx fs => obtain ⟨_, _, _, e, _⟩ := x; exact ⟨_, e⟩
  | own y => exact x
  | xd fs => obtain ⟨_, ⟨_, _, _, e, _⟩, _⟩ := x; exact ⟨_, e⟩
  | rng lo hi => obtain ⟨_, _, _, e⟩ := x; exact ⟨_, e⟩
  | frz ob u => exact ⟨_, x.1⟩
  | tbl ps => exact ⟨_, x⟩
  | met f y => exact ⟨_, x⟩
  | ext φ => exact x.2.1
section
variable {X : Cx} {pins : List (Addr × Obj)} {σ : L2.St} {H : Hp}
/-- what the hidden heap lacks, the state lacks -/
theorem lacks {B : Heap} {sI : Shared} {b : Addr} (I : Inv X pins σ H sI) (hex : X.ex = []) (nb : ∀ b o, sI.heap.get? b = some o → b ∉ frs X.stack → B.get? b = some o) (hb : B.get? b = none) (nf : b ∉ frs X.stack) :
    sI.heap.get? b = none ∧ H b = none ∧ X.s_0.heap.get? b = none ∧ X.base.get? b = none := by
  have h1 : sI.heap.get? b = none := by
    cases q : sI.heap.get? b with
    | none => rfl
    | some o => rw [nb b o q nf] at hb; cases hb
  refine ⟨h1, ?_, ?_, ?_⟩
  · cases q : H b with
    | none => rfl
    | some o =>
      obtain ⟨u, e⟩ := objOk_there (I.hok b o q)
      rw [h1] at e; cases e
  · cases q : X.s_0.heap.get? b with
    | none => rfl
    | some o =>
      obtain ⟨o', e⟩ := I.base.there b o q (by rw [hex]; exact fun z => by cases z)
      rw [h1] at e; cases e
  · cases q : X.base.get? b with
    | none => rfl
    | some o =>
      have := I.bk b o q
      rw [h1] at this; cases this
/-- the error x leaves the suite, the clause's name n goes -/
theorem named_out {W : WX} {i : Nat} {n : Str} {hp : Pos} {x : Value} {s : Shared} {Rr : Value → Shared → Prop} (hst : X.stack = X.env :: X.outer) (hfr : X.env.frame = some X.env.locals) (hN : X.N.Nodup) (hi : X.N[i]? = some n) (hl : X.env.kindOf n = some .local) (hex : X.ex = [])
    (xx : L2.XE X W x s) (hr : ∀ s', L2.XE X (fun cls d σ' H => ∃ σ, σ' = σ.set i none ∧ W cls d σ H) x s' → Rr x s') :
    wpAny (model X.prog X.w) X.A (noteFrame x X.env) (fun _ s₃ => wpAny (model X.prog X.w) X.A (do bindName X.env n .none; unbindBehindTheSuite X.env n hp)
      (fun _ s₄ => wpAny (model X.prog X.w) X.A (PySem.passOn "try.except-as" x X.env : Sem Flow) (fun _ _ => False) Rr s₄)
      (fun y s₄ => wpAny (model X.prog X.w) X.A (setFlight x none) (fun _ s₅ => Rr y s₅) Rr s₄) s₃) Rr s := by
  obtain ⟨a, B, sI, pins, σ, H, cls, d, eu, J, nb, up, sky, na, os, ag, w⟩ := xx
  subst eu
  have fr : X.A.frames = some (X.env :: X.outer) := J.ok.frames.trans (congrArg some hst)
  have fin : ∀ g, HandSPX.HeldZ B (X.env :: X.outer) a (Zc cls d) X.env.locals g → s.heap.UpToSlots g →
      wpAny (model X.prog X.w) X.A (do bindName X.env n .none; unbindBehindTheSuite X.env n hp) (fun _ s₄ => wpAny (model X.prog X.w) X.A (PySem.passOn "try.except-as" (.ref a) X.env : Sem Flow) (fun _ _ => False) Rr s₄)
        (fun y s₄ => wpAny (model X.prog X.w) X.A (setFlight (.ref a) none) (fun _ s₅ => Rr y s₅) Rr s₄) { s with heap := g } := by
    intro g hh up2
    obtain ⟨k1, k2, k3, oe, vs, T, oT, ts, he, hz, hd, h1, hnT, hTe, hT, hdT, h3⟩ := hh
    have J1 : Inv X pins σ H { s with heap := g } := J.landed nb k1 (up.trans up2) os ag
    have far : ∀ {b : Addr} {o : Obj} {fs : Array Value}, g.get? b = some o → o.data = .fields fs → b ∉ frs X.stack := fun {b o fs} e q hm => by
      rw [hst] at hm
      obtain ⟨_, o', e', hnf⟩ := k3.mem hm
      rw [e] at e'
      cases e'
      exact hnf _ q
    have fa := far he hd
    have fT := far hT hdT
    obtain ⟨a1, a2, a3, a4⟩ := lacks J hex nb k2 fa
    obtain ⟨t1, t2, t3, t4⟩ := lacks J hex nb hnT fT
    have nL : ∀ {b : Addr}, b ∉ frs X.stack → b ≠ X.env.locals ∧ b ∉ X.fs := fun {b} f => by
      rw [hst] at f
      refine ⟨fun z => f (List.mem_filterMap.mpr ⟨X.env, List.mem_cons_self, hfr.trans (congrArg some z.symm)⟩), fun hm => ?_⟩
      obtain ⟨e, he, z⟩ := List.mem_filterMap.mp hm
      exact f (List.mem_filterMap.mpr ⟨e, List.mem_cons_of_mem _ he, z⟩)
    have J2 : Inv X ((a, oe) :: (T, oT) :: pins) σ H { s with heap := g } := J1.pins_of fun p hp => by
      rcases List.mem_cons.mp hp with rfl | hp
      · exact ⟨he, na, (nL fa).1, (nL fa).2, fun v z => by rw [hd] at z; cases z⟩
      · rcases List.mem_cons.mp hp with rfl | hp
        · exact ⟨hT, t2, (nL fT).1, (nL fT).2, fun v z => by rw [hdT] at z; cases z⟩
        · exact J1.pin p (List.mem_append_right _ hp)
    refine gone_ok J2 hN hi hl fun s7 K => ?_
    have pa := (K.pin (a, oe) (List.mem_append_right _ List.mem_cons_self)).1
    have pT := (K.pin (T, oT) (List.mem_append_right _ (List.mem_cons_of_mem _ List.mem_cons_self))).1
    have pold : ∀ p ∈ X.pn ++ pins, sI.heap.get? p.1 = some p.2 := fun p hp => (J.pin p hp).1
    obtain ⟨G1, K1, up1, g1⟩ := Inv.cut K hd a3 fun p hp => by
      rcases List.mem_append.mp hp with h | h
      · intro z
        have := pold p (List.mem_append_left _ h)
        rw [z, a1] at this; cases this
      · rcases List.mem_cons.mp h with rfl | h
        · exact hTe
        · intro z
          have := pold p (List.mem_append_right _ h)
          rw [z, a1] at this; cases this
    obtain ⟨G2, K2, up2', g2⟩ := Inv.cut K1 hdT t3 fun p hp => by
      intro z
      have := pold p hp
      rw [z, t1] at this; cases this
    have up3 : ∀ b o, G2.get? b = some o → s7.heap.get? b = some o := fun b o e => up1 b o (up2' b o e)
    have g1' : G2.get? a = none := by
      cases q : G2.get? a with
      | none => rfl
      | some o => have := up2' a o q; rw [g1] at this; cases this
    have sz3 : 3 < ts.size := (Array.getElem?_eq_some_iff.mp h3).1
    unfold PySem.passOn
    refine wpAny_bind (wpAny_field pa hd h1 ?_)
    rw [if_neg (show ¬ (Value.ref T == Value.none) = true by simp)]
    have pT' : T ≠ a := hTe
    have out : Rr (.ref a) { s7 with heap := s7.heap.update T (Obj.mapFields (·.setIfInBounds 3 (rawInt X.env.locals))) } := by
      have k8 : ∀ b o, G2.get? b = some o → (s7.heap.update T (Obj.mapFields (·.setIfInBounds 3 (rawInt X.env.locals)))).get? b = some o := fun b o e => by
        have : T ≠ b := fun z => by rw [← z, g2] at e; cases e
        rw [Heap.get?_update_other _ _ this]
        exact up3 b o e
      have hide : ∀ {b : Addr}, G2.get? b = none → (PySem.W.hideAll G2 (frs X.stack)).get? b = none := fun {b} e => by
        cases q : (PySem.W.hideAll G2 (frs X.stack)).get? b with
        | none => rfl
        | some o => have := PySem.W.of_hideAll _ q; rw [e] at this; cases this
      refine hr _ ⟨a, PySem.W.hideAll G2 (frs X.stack), { s7 with heap := G2 }, pins, σ.set i none, H, cls, d, rfl, K2, fun b o e hb => PySem.W.hideAll_get _ e hb, Heap.UpToSlots.of_keeps k8, .inr (.inr ⟨fun b o e => k8 b o (PySem.W.of_hideAll _ e), hide g1', ?_, ?_⟩), na, rfl, K.bare, σ, rfl, w⟩
      · exact Heap.FunFrames.of_keeps (fun b o e _ => ⟨o, k8 b o e, rfl⟩) (funFrames_none K2.stack fun b hb => PySem.W.hideAll_none _ hb)
      · refine ⟨oe, vs, T, _, _, ?_, hz, hd, h1, hide g2, hTe, Heap.get?_update_self _ pT (Obj.isFreed_of_fields (Obj.data_mapFields hdT _)), Obj.data_mapFields hdT _, ?_⟩
        · rw [Heap.get?_update_other _ _ hTe]; exact pa
        · rw [Array.getElem?_setIfInBounds_self_of_lt sz3]
    have fin2 : wpAny (model X.prog X.w) X.A (setFlight (.ref a) X.env.frame) (fun _ s4 => wpAny (model X.prog X.w) X.A (throw (.ref a) : Sem Flow) (fun _ _ => False) Rr s4) Rr s7 := by
      rw [hfr]
      exact setFlight_tb pa hd h1 pT hdT sz3 (wpAny_throw out)
    first | exact wpAny_bind (wpAny_pure (wpAny_bind fin2)) | exact wpAny_bind fin2
  rcases sky with ⟨hB, hn, hl2, oe, vs, he, hz, hd, h1⟩ | fl | hh
  · exact HandSPX.look_newZ Zc.steady fr (hst ▸ hl2) hfr he hB hn hd h1 hz fin
  · exact HandSPX.looks_onZ Zc.steady fr hfr (hst ▸ fl) fin
  · have hh' : HandSPX.HeldZ B (X.env :: X.outer) a (Zc cls d) X.env.locals s.heap := hst ▸ hh
    exact HandSPX.againZ hfr hh'.2.2.2 (fin s.heap hh' (Heap.UpToSlots.refl _))
end
end Tw

set_option maxHeartbeats 2000000
namespace Tw
open PySem PySem.Spec L2 L2H HotX
open PyProof.Rows hiding St
/-- the context of such a suite -/
abbrev sxX (X : Cx) (a : Addr) (pn : List (Addr × Obj)) (xe : Value → Shared → Prop) : Cx := { X with A := X.A.mark (some (.ref a)), calm := false, pn := pn, xe := xe }
/-- what is wanted of an error of the body -/
def wOne (K : PySem.W.Frag) (Wo : WX) (D : Ends) (c : Value) (i : Nat) (ts : Addr → Value → Option Addr → TS) : WX :=
  fun cls d σ H => ∃ b, PySem.W.exmOne K cls c = some b ∧ (b = true → ∀ a, H a = none → ts a cls d (goneE i D) (σ.set i (some (.ref a))) H) ∧ (b = false → Wo cls d σ H)
section
variable {X : Cx} {x n : Str} {c : Value} {i : Nat} {body su : List Stmt} {s0 : Stmt} {np hp pos : Pos} {tb : WX → TS} {ts : Addr → Value → Option Addr → TS} {Wo : WX}
theorem ps_tryR (hst : X.stack = X.env :: X.outer) (hfr : X.env.frame = some X.env.locals) (hN : X.N.Nodup) (hex : X.ex = []) (hc : Names X x c) (hi : X.N[i]? = some n) (hl : X.env.kindOf n = some .local)
    (hpa : ∀ hd : Option Value, PassesOwnAt (model X.prog X.w) (X.A.mark hd) X.A X.env X.xe) (tk : L2.Takes X Wo)
    (hb : ∀ (W : WX) (pn : List (Addr × Obj)) (xe : Value → Shared → Prop), L2N.Takes (X.tr pn xe) W → PassesOwn (model X.prog X.w) X.A X.env xe → PSs (X.tr pn xe) body (tb W))
    (hsu : ∀ (a : Addr) (oe : Obj) (cls : Value) (d : Option Addr) (pn : List (Addr × Obj)) (xe : Value → Shared → Prop), L2N.Zn cls d oe → (∃ vs, oe.data = .fields vs) → X.base.get? a = none →
      L2.Takes (sxX X a ((a, oe) :: pn) xe) (fun cls d σ H => Wo cls d (σ.set i none) H) → PSs (sxX X a ((a, oe) :: pn) xe) (s0 :: su) (ts a cls d)) :
    PS X (.Try body [.ExceptHandler (some (.Name x np)) (some n) (s0 :: su) hp] [] [] pos) (fun D σ H => tb (wOne X.K Wo D c i ts) D σ H) := by
  constructor
  intro pins s σ H D I q
  have ok := I.ok
  have fr : X.A.frames = some (X.env :: X.outer) := ok.frames.trans (congrArg some hst)
  let after : Value → Shared → Prop := fun e s₁ => wpAny (model X.prog X.w) X.A (noteFrame e X.env) (fun _ s₂ => wpAny (model X.prog X.w) X.A (setFlight e none) (fun _ s₃ => wpAny (model X.prog X.w) X.A (handleBy e X.env [.ExceptHandler (some (.Name x np)) (some n) (s0 :: su) hp]) (SP X pins D) X.xe s₃) X.xe s₂) X.xe s₁
  refine wpAny_Try_except (wpAny_mono ((hb (wOne X.K Wo D c i ts) (X.pn ++ pins) after ?caught PassesOwn.looking).run [] s σ H D (I.toTry _) q) ?through (fun e s1 he => he))
  case through =>
    intro f s1 sp
    cases f with
    | next => exact let ⟨σ', H', J, z⟩ := sp; wpAny_execs_nil ⟨σ', H', J.ofTry ok, z⟩
    | brk => exact let ⟨σ', H', J, z⟩ := sp; ⟨σ', H', J.ofTry ok, z⟩
    | cont => exact let ⟨σ', H', J, z⟩ := sp; ⟨σ', H', J.ofTry ok, z⟩
    | ret u => exact let ⟨v, σ', H', J, rv, z⟩ := sp; ⟨v, σ', H', J.ofTry ok, rv, z⟩
  case caught =>
    intro u t xx
    obtain ⟨a, B, sI, pins', σ1, H1, cls, d, eu, J0, nb, up, sky, na, os, ag, w⟩ := xx
    subst eu
    have J : Inv X pins σ1 H1 sI := J0.ofTry ok
    have sky1 : L2.Sky B (X.env :: X.outer) a (L2N.Zn cls d) X.env.locals t.heap := hst ▸ sky
    refine L2N.Sky.land L2N.Zn.steady fr hfr sky1 fun g1 fl1 up1 => ?_
    have J1 : Inv X pins σ1 H1 { t with heap := g1 } := J.landed nb fl1.1 (up.trans up1) os ag
    obtain ⟨ob, fs, hob, hzo, hdo⟩ := fl1.there
    have far : a ∉ frs (X.env :: X.outer) := by
      intro hm
      obtain ⟨_, o', e', hnf⟩ := fl1.2.2.1.mem hm
      rw [hob] at e'
      cases e'
      exact hnf _ hdo
    have nL : a ≠ X.env.locals := fun z => far (List.mem_filterMap.mpr ⟨X.env, List.mem_cons_self, hfr.trans (congrArg some z.symm)⟩)
    have nF : a ∉ X.fs := by
      intro hm
      obtain ⟨e, he, z⟩ := List.mem_filterMap.mp hm
      exact far (List.mem_filterMap.mpr ⟨e, List.mem_cons_of_mem _ he, z⟩)
    obtain ⟨a1, _, a3, a4⟩ := lacks J hex nb fl1.2.1 (hst ▸ far)
    have K1 := J1.suite hob hdo na nL nF
    obtain ⟨b, hb1, yes, no⟩ := w
    refine wpAny_handleBy_cons (codeAny_handlers_test ?_) (by intro z; cases z)
    have look : PySem.W.Looks (model X.prog X.w) g1 (typeOf (.ref a)) cls := fun A Q E s k z => wpAny_typeOf_ref (k _ _ hob) (hzo.1.symm ▸ z)
    have lm := PySem.W.exm_one (M := model X.prog X.w) J1.kIn look hb1
    have test : ∀ {Q : Value → Shared → Prop} {E : Value → Shared → Prop}, Q c { t with heap := g1 } → wpAny (model X.prog X.w) (X.A.mark (some (.ref a))) (eval (.Name x np) X.env) Q E { t with heap := g1 } := by
      intro Q E z
      obtain ⟨hg, hdbg, hm | ⟨hm, hv, hnn⟩⟩ := hc
      · exact ld_glob (X := X.suite a ((a, ob) :: (X.pn ++ pins))) K1 hg hm z hdbg
      · exact ld_blt (X := X.suite a ((a, ob) :: (X.pn ++ pins))) K1 hg hm hv z hnn hdbg
    refine test (lm.here ?_)
    cases b with
    | false =>
      refine wpAny_handleBy_nil ?_
      obtain ⟨_, _, _, oe, vs, T, _, _, he, _, hd, h1, _⟩ := id fl1
      unfold PySem.passOn
      refine wpAny_bind (wpAny_field he hd h1 ?_)
      rw [if_neg (show ¬ (Value.ref T == Value.none) = true by simp)]
      have fin : wpAny (model X.prog X.w) X.A (setFlight (.ref a) X.env.frame) (fun _ s4 => wpAny (model X.prog X.w) X.A (throw (.ref a) : Sem Flow) (SP X pins D) X.xe s4) X.xe { t with heap := g1 } := by
        rw [hfr]
        refine HandSPX.setFlight_upZ (flyingZ_imp (fun o z => L2N.Zn.zc z) fl1) fun g2 hg2 up2 => wpAny_throw (tk _ _ ⟨a, B, sI, pins, σ1, H1, cls, d, rfl, J, nb, (up.trans up1).trans up2, .inr (.inr (hst ▸ hg2)), na, os, ag, no rfl⟩)
      first | exact wpAny_bind (wpAny_pure (wpAny_bind fin)) | exact wpAny_bind fin
    | true =>
      refine codeAny_handlers_suite_as (HandSPX.lands_againZ fl1 fun g2 fl2 up2 => ?_)
      have J2 : Inv X pins σ1 H1 { t with heap := g2 } := J.landed nb fl2.1 ((up.trans up1).trans up2) os ag
      obtain ⟨ob2, fs2, hob2, hzo2, hdo2⟩ := fl2.there
      have K2 := J2.suite hob2 hdo2 na nL nF
      refine store_ok (X := X.suite a ((a, ob2) :: (X.pn ++ pins))) (v := .ref a) K2 hN hi (.inl hl) rfl (fun s5 K5 => ?_) (.inr hl)
      refine wpAny_mono ((hsu a ob2 cls d (X.pn ++ pins) _ hzo2 ⟨_, hdo2⟩ a4 ?tks).run [] s5 _ H1 _ (Inv.wish K5 _) (yes rfl a na)) ?_ (fun _ _ z => z)
      case tks =>
        intro u2 s2 x2
        refine named_out (X := sxX X a ((a, ob2) :: (X.pn ++ pins)) _) hst hfr hN hi hl hex x2 fun s3 x3 => ?_
        refine hpa (some (.ref a)) _ _ (tk _ _ ?_)
        obtain ⟨a', B', sI', pins2, σ2, H2, cls2, d2, e2, I2, nb2, up2, sky2, na2, os2, ag2, σ0, rfl, w2⟩ := x3
        exact ⟨a', B', sI', pins, _, H2, cls2, d2, e2, Inv.unsuite (X := X) (a := a) (q := (a, ob2)) (pn' := pins2) (Inv.wish I2 fun _ _ => False) ok, nb2, up2, sky2, na2, os2, ag2, w2⟩
      intro f s6 sp
      have fin : ∀ {σ6 : L2.St} {H6 : Hp} {Q : Shared → Prop}, Inv (X.suite a ((a, ob2) :: (X.pn ++ pins))) [] σ6 H6 s6 → (∀ s7, Inv X pins (σ6.set i none) H6 s7 → Q s7) →
          wpAny (model X.prog X.w) X.A (do bindName X.env n .none; unbindBehindTheSuite X.env n hp) (fun _ s7 => Q s7) X.xe s6 := fun K6 hq => gone_ok (K6.unsuite ok) hN hi hl hq
      cases f with
      | next => exact let ⟨σ6, H6, K6, z⟩ := sp; fin (Inv.wish K6 fun _ _ => False) fun s7 J7 => ⟨_, _, J7, z⟩
      | brk => exact let ⟨σ6, H6, K6, z⟩ := sp; fin (Inv.wish K6 fun _ _ => False) fun s7 J7 => ⟨_, _, J7, z⟩
      | cont => exact let ⟨σ6, H6, K6, z⟩ := sp; fin (Inv.wish K6 fun _ _ => False) fun s7 J7 => ⟨_, _, J7, z⟩
      | ret u => exact let ⟨v6, σ6, H6, K6, r6, z⟩ := sp; fin (Inv.wish K6 fun _ _ => False) fun s7 J7 => ⟨_, _, _, J7, r6, z⟩
end
end Tw

set_option maxHeartbeats 2000000
namespace Tw
open PySem PySem.Spec L2 L2H HotX
open PyProof.Rows hiding St
def Cy.nf (Y : Cy) : Cy := { Y with E := fun _ _ _ _ => False }
structure LkN (X : Cx) (Y : Cy) : Prop where
  f : Lk X Y.nf
  t : L2N.Takes X Y.E
def PNS (X : Cx) (Y : Cy) (st : Stmt) (F : DS) : Prop := LkN X Y → PS X st (tDS Y F)
def PNSs (X : Cx) (Y : Cy) (st : List Stmt) (F : DS) : Prop := LkN X Y → PSs X st (tDS Y F)
def NoX (f : DE) : Prop := ∀ ρ e, f ρ ≠ .ex e
def NoXA (f : DA) : Prop := ∀ ρ e, f ρ ≠ .ex e
def NoXT (f : DT) : Prop := ∀ ρ e, f ρ ≠ .ex e
theorem of_nx {o : Option D} {e : Ex} : R.of o ≠ .ex e := by
  intro h
  cases o <;> cases h
theorem nx_c {d : D} : NoX (eC d) := fun ρ e h => by cases h
theorem nx_var (i : Nat) : NoX (eVar i) := fun ρ e h => by
  unfold eVar at h
  split at h <;> cases h
theorem nx_1 {o : D → Option D} {a : DE} (ha : NoX a) : NoX (e1 o a) := fun ρ e h => by
  have h : (a ρ).bind (fun x => R.of (o x)) = .ex e := h
  cases q : a ρ with
  | ex y => exact ha ρ y q
  | no => rw [q] at h; cases h
  | ok d => rw [q] at h; exact of_nx h
theorem nx_2 {o : D → D → Option D} {a b : DE} (ha : NoX a) (hb : NoX b) : NoX (e2 o a b) := fun ρ e h => by
  have h : (a ρ).bind (fun x => (b ρ).bind fun y => R.of (o x y)) = .ex e := h
  cases q : a ρ with
  | ex y => exact ha ρ y q
  | no => rw [q] at h; cases h
  | ok d =>
    rw [q] at h
    have h : (b ρ).bind (fun y => R.of (o d y)) = .ex e := h
    cases q2 : b ρ with
    | ex y => exact hb ρ y q2
    | no => rw [q2] at h; cases h
    | ok d2 => rw [q2] at h; exact of_nx h
theorem nxa_nil : NoXA aNil := fun ρ e h => by cases h
theorem nxa_cons {a : DE} {as : DA} (ha : NoX a) (hs : NoXA as) : NoXA (aCons a as) := fun ρ e h => by
  have h : (a ρ).bind (fun x => (as ρ).bind fun xs => .ok (x :: xs)) = .ex e := h
  cases q : a ρ with
  | ex y => exact ha ρ y q
  | no => rw [q] at h; cases h
  | ok d =>
    rw [q] at h
    have h : (as ρ).bind (fun xs => R.ok (d :: xs)) = .ex e := h
    cases q2 : as ρ with
    | ex y => exact hs ρ y q2
    | no => rw [q2] at h; cases h
    | ok d2 => rw [q2] at h; cases h
theorem nxt_val {a : DE} (ha : NoX a) : NoXT (tVal a) := fun ρ e h => by
  unfold tVal at h
  cases q : a ρ with
  | ex y => exact ha ρ y q
  | no => rw [q] at h; cases h
  | ok d => rw [q] at h; cases d <;> cases h
section
variable {X : Cx} {Y : Cy} {fa : DE} {a : Expr} {st : Stmt} {rest : List Stmt} {F G1 G2 : DS} {pos : Pos}
theorem pn_ret (ha : PD X Y.nf a fa) (nx : NoX fa) : PNS X Y (.Return (some a) pos) (sRet fa) := fun k => impPS (ps_ret (ha k.f)) fun N σ H ⟨O, ρ, s, q⟩ => by
  refine ⟨O, ρ, s.reE (c := Y.ca), ?_⟩
  have q : SPost Y O H N ((fa ρ).st ρ fun d => .ok (.rt d ρ)) := q
  cases ea : fa ρ with
  | ex e => exact absurd ea (nx ρ e)
  | no => rw [ea] at q; exact q
  | ok d => rw [ea] at q; exact fun v H1 s1 rv => q O σ H1 v (Stp.same s1) (s.same s1) rv
theorem pn_if {c : Expr} {gc : DT} {A B : List Stmt} (hc : PDT X Y.nf c gc) (nx : NoXT gc) (ha : PNSs X Y A G1) (hb : PNSs X Y B G2) : PNS X Y (.If c A B pos) (sIf gc G1 G2) := fun k => impPS (ps_if (hc k.f) (ha k) (hb k)) fun N σ H ⟨O, ρ, s, q⟩ => by
  refine ⟨O, ρ, s.reE (c := Y.ca), ?_⟩
  unfold sIf at q
  cases ea : gc ρ with
  | no => rw [ea] at q; exact q
  | ex e => exact absurd ea (nx ρ e)
  | ok b =>
    rw [ea] at q
    intro H1 s1
    cases b with
    | true => exact ⟨O, ρ, s.same s1, SPost.fwd (Stp.same s1) q⟩
    | false => exact ⟨O, ρ, s.same s1, SPost.fwd (Stp.same s1) q⟩
theorem pns_nil : PNSs X Y [] sNext := fun k => impPSs pss_nil fun N σ H ⟨O, ρ, s, q⟩ => q O σ H Stp.refl s
theorem pns_one (h1 : PNS X Y st F) : PNSs X Y [st] F := fun k => pss_one (h1 k)
theorem pns_cons (h1 : PNS X Y st F) (h2 : PNSs X Y rest G1) : PNSs X Y (st :: rest) (sSeq F G1) := fun k => impPSs (pss_cons (h1 k) (h2 k)) fun N σ H ⟨O, ρ, s, q⟩ => by
  refine ⟨O, ρ, s, ?_⟩
  unfold sSeq at q
  cases ea : F ρ with
  | ex e => rw [ea] at q; exact q
  | no => rw [ea] at q; exact q
  | ok o =>
    rw [ea] at q
    cases o with
    | nx ρ' => exact fun O' σ' H' st s' => ⟨O', ρ', s', SPost.fwd st q⟩
    | _ => exact q
end
end Tw

set_option maxHeartbeats 2000000
namespace Tw
open PySem PySem.Spec L2
open PyProof.Rows hiding St
section
variable {X : Cx} {pins : List (Addr × Obj)} {σ : L2.St} {H : Hp} {s : Shared}
theorem mk_endN {Q : XK} {H1 H2 : Hp} {hp hp2 h2 : Heap} {ga gb : Array GenState} {da db : Drawn} {ta tb : Nat} {oa ob : OsState} {a C d : Addr} {fs : List (Str × V)} (T : Raises X (.ref C)) (I1 : Inv X pins σ H1 ⟨hp, ga, da, ta, oa⟩) (ha : hp.objs.size ≤ a)
    (k : ∀ b o, hp.get? b = some o → hp2.get? b = some o) (un : Un (frs X.stack) [] (upd H1 a (exo a C none)) H2 hp2 h2) (hok : HOk X.prog X.w H2 h2) (ho : ob = oa) (hb : AllBare gb) (ea : H2 a = some (exo a C (some d)))
    (ed : H2 d = some (exd d fs)) (hd1 : H1 d = none) (q : Q (.ref C) (some d) (upd (del H2 a) d (.xd fs))) : L2N.MkP X pins σ Q (.ref a) ⟨h2, gb, db, tb, ob⟩ := by
  obtain ⟨t0, G, J, kG, ge, hoe, na⟩ := mk_end0 (d2 := db) (t2 := tb) I1 ha k un hok ho hb ea ed hd1
  exact ⟨a, _, _, ⟨G, gb, db, tb, ob⟩, _, .ref C, some d, rfl, J, kG, ge, hoe, ⟨rfl, rfl, fun vs hv => by cases hv; rfl⟩, rfl, rfl, na, rfl, hb, T, q⟩
/-- C(e, ..), an own error, its record in sight -/
theorem pmkN_oex {CT : CXT} {x : Str} {C fI : Addr} {k : Nat} {fd : FuncData} {ps : List Str} {sp : Sp} {e : Expr} {es : List Expr} {ta : TA} {p pos : Pos} (T : OexC X.K C) (iC : PySem.W.findIn X.K (.ref C) "__init__" = some (some (.ref fI))) (tI : PySem.W.typeIn X.K (.ref fI) = some (.type "function"))
    (F1 : FnOk X.prog X.w X.K X.mg X.base CT k fI fd ps sp) (hr : Room (k + 1) X.A) (hb : Binds X.K fd ps []) (hx : Passes CT X fun _ _ _ => False) (hg : Gl X x) (hm : X.mg x = some (.ref C)) (hA : PA X (e :: es) ta)
    (hdb : (x == ("__debug__" : Str)) = false) (he : starEach (e :: es) X.env = (false, eval e X.env) :: starEach es X.env) (hpl : (backTo pos (starEach es X.env)).any (·.1) = false) : L2N.PMk X (.Call (.Name x p) (e :: es) [] pos) (tMkO C sp [] ta) := by
  intro pins s σ H Q I q0
  obtain ⟨nm, q, N, bs, bm, sn, sub, ab, col, dd, k0, k1, k2, k3, k5, hC, hbm⟩ := T.cls
  refine wpAny_Call_Name_kw (ld_glob I hg hm ?_ hdb)
  refine PySem.W.callWith_K (h₀ := X.base) I.ok.mod.kin T.kC (wpAny_mono (hA.run pos pins s σ H _ I q0) (fun us s1 h1 => ?_) fun _ _ z => z) he hpl
  obtain ⟨vs, H1, I1, rv, hz, q1⟩ := h1
  refine ⟨I1.kIn, ?_⟩
  show wpAny _ _ (call (.ref C) us) _ _ _
  obtain ⟨hp, g, dr, tk, os⟩ := s1
  -- the two cells that the making lays
  generalize hN : hp.objs.size + 1 = n
  have hle : hp.objs.size ≤ n := by omega
  have qn := q1 n (I1.hok.fresh hle)
  rw [List.append_nil] at qn
  have kk : ∀ b o, hp.get? b = some o → ((hp.push (PySem.W.kdv_tup us)).push (PySem.HandSPX.excO C hp.objs.size)).get? b = some o :=
    fun b o z => Heap.get?_push_of_some _ (Heap.get?_push_of_some _ z)
  have at1 : ((hp.push (PySem.W.kdv_tup us)).push (PySem.HandSPX.excO C hp.objs.size)).get? n = some (PySem.HandSPX.excO C hp.objs.size) := by subst hN; heap_get
  have I2 := I1.laid (t' := tk) (a := n) (o := exo n C none) kk hle (exo_ok at1)
  have r2 : Vals (V.ref n :: vs) (Value.ref n :: us) := .cons rfl rv
  have lu : (Value.ref n :: us).length = ps.length := by
    rw [← F1.len _ _ _ _ qn]; exact r2.length.symm
  have b2 := hb _ (Value.ref n :: us) I2.kIn (by rw [List.append_nil]; exact lu)
  rw [List.append_nil] at b2
  have lz : us.length ≤ sizeLine := by
    have := Paired.length rv
    rw [sizeLine_eq]
    omega
  subst hN
  refine wpAny_call (PySem.HandSPX.call_own F.excBase_ValueError (fun Y => PySem.HandSPX.refsVE_contains Y bm hbm) (I1.kIn _ _ hC)
    (PySem.W.looks_findIn I1.kIn iC) (fun self => PySem.W.bind_fn I1.kIn self tI) lz
    (codeAny_mono (F1.run _ X.stack _ _ _ _ _ _ (fun _ _ _ => False) (hr.make C us []) (I2.env0.make C us []) b2 r2 qn) fun r s2 z => ?_))
  cases r with
  | error er => exact hx pins σ _ _ er s2 I2 z
  | ok fl =>
    cases fl with
    | ret u =>
      obtain ⟨v, H2, o2, bare2, un2, hok2, rv2, ev, d, fs, ea, ed, hd1, q2⟩ := z
      subst ev
      obtain ⟨h2, g2, d2, t2, os2⟩ := s2
      exact ⟨rv2, mk_endN (raises_own T.exC T.tyC) I1 hle kk un2 hok2 o2 bare2 ea ed hd1 q2⟩
    | next => exact z.elim
    | brk => exact z.elim
    | cont => exact z.elim
end
section
variable {X : Cx} {Y : Cy} {e : Expr} {es : List Expr} {fs : DA} {pos pos' p : Pos} {x : Str} {cn : String} {ks : List Str} {j : Nat}
theorem pn_raise (M : XMk X.prog X.w X.K X.mg X.base Y.G x cn ks j) (hj : j + 1 ≤ Y.lv) (hg : Gl X x) (ha : PDA X Y.nf (e :: es) fs) (nx : NoXA fs) (hdb : (x == ("__debug__" : Str)) = false := by decide) (he : starEach (e :: es) X.env = (false, eval e X.env) :: starEach es X.env := by rfl)
    (hpl : (backTo pos (starEach es X.env)).any (·.1) = false := by rfl) (hca : Y.ca = true := by rfl) : PNS X Y (.Raise (some (.Call (.Name x p) (e :: es) [] pos)) none pos') (sRaise cn ks fs) := fun k => by
  obtain ⟨f, fd, ps, F, T, iC, tI, hm, hb, hk9⟩ := M
  have pas : Passes (L2.CX X.prog X.w) X (fun _ _ _ => False) := fun pins σ H s u s' I c => by
    obtain ⟨a, B, H', cls, d, _, _, _, _, _, _, _, z⟩ := c
    exact z.elim
  refine impPS (L2N.ps_raise (k.f.calm hca) k.t (pmkN_oex T iC tI F ((k.f.room hca).mono hj) hb pas hg hm (ha k.f) hdb he hpl)) fun N σ H ⟨O, ρ, s, q⟩ => ?_
  · refine ⟨O, ρ, s.reE (c := Y.ca), ?_⟩
    unfold sRaise at q
    cases ea : fs ρ with
    | no => rw [ea] at q; exact q
    | ex y => exact absurd ea (nx ρ y)
    | ok ds =>
      rw [ea] at q
      simp only [R.st_ok] at q
      split at q
      rotate_left
      · exact q.elim
      rename_i hlen
      intro vs H1 s1 rs
      have hvl : vs.length = ks.length := rs.length.symm.trans hlen
      refine ⟨by rw [hvl]; omega, fun a ha => ?_⟩
      rw [List.append_nil]
      refine ⟨a, vs, rfl, hvl, upd_same, fun dx H2 hd hne h1 h2 h3 => ⟨rfl, dx, _, h1, h2, ?_, ?_⟩⟩
      · rwa [upd_ne hne] at hd
      · rw [upd_ne hne] at hd
        have sm : Same H1 (upd (del H2 a) dx (.xd (fKeys ks.reverse vs.reverse))) := fun b o hb => by
          have b1 : b ≠ a := ne_of_none hb ha
          have b2 : b ≠ dx := ne_of_none hb hd
          rw [upd_ne b2, del_ne b1, h3 b b1 b2, upd_ne b1]
          exact hb
        refine q O σ _ _ _ (Stp.same (s1.trans sm)) (s.same (s1.trans sm)) ⟨rfl, dx, vs.reverse, rfl, upd_same, by rw [List.length_reverse, List.length_reverse, hvl], (rs.same sm).rev⟩
end
/-- a def by data, its errors bear no context -/
def FkN (P : Program) (w : World) (K : PySem.W.Frag) (mg : Str → Option Value) (base : Heap) (G : Gc) (x : Str) (den : List D → R D) (j : Nat) : Prop :=
  ∃ f fd ps, FnOk P w K mg base (L2N.CX P w) j f fd ps (dsp G den) ∧ mg x = some (.ref f) ∧ PySem.W.keepIn K (.ref f) = true ∧ Binds K fd ps []
section
variable {P : Program} {w : World} {K : PySem.W.Frag} {mg : Str → Option Value} {base : Heap} {x qual : Str} {params : Arguments} {body : List Stmt} {scope : Scope} {dvs : List V} {kws : List (Str × V)} {f : Addr} {fd : FuncData} {N ps : List Str} {k : Nat} {G : Gc} {b : DS}
theorem lkN_of {cdv : Value} {A : Around} {outer : List Env} {s : Shared} {H : Hp} {E : XK} {Ze : Addr → Prop} {sa : Addr} (hK : G.K = K) (S : FnScope N ps scope) (hr : Room k (A.deeper (envOfC qual scope s.heap.objs.size f cdv))) :
    LkN (cxOf (L2N.CX P w) P w K mg base N qual scope f cdv A outer s H E) (cyOf G Ze sa E k N) :=
  ⟨⟨hK.symm, rfl, fun u s' ⟨a, B, sI, pins, σ, H, cls, d, _, _, _, _, _, _, _, _, z⟩ => z.elim, Room.lo hr, fun _ => hr.hd, S.nd, passes_of rfl, fun _ => rfl⟩, L2N.takes_of rfl rfl rfl rfl⟩
theorem fn_dspN (F : FunD K x qual params body scope dvs kws f fd) (hK : G.K = K) (S : FnScope N ps scope) (hl : ps.length ≤ N.length)
    (hb : ∀ (cdv : Value) (A : Around) (outer : List Env) (s : Shared) (H : Hp) (E : XK) (Ze : Addr → Prop), PNSs (cxOf (L2N.CX P w) P w K mg base N qual scope f cdv A outer s H E) (cyOf G Ze 0 E k N) body b) :
    FnOk P w K mg base (L2N.CX P w) (k + 1) f fd ps (dsp G (defD N.length ps.length b)) := by
  have hlen : ∀ ds, (∀ (H : Hp) (Q : VK) (E : XK) (Ze : Addr → Prop), DPost G Ze H Q E (defD N.length ps.length b ds) → ds.length = ps.length) := fun ds H Q E Ze q => by
    unfold defD at q
    split at q
    · assumption
    · exact q.elim
  refine F.ok S (fun vs H Q E h => ?_) fun cdv A outer s H vs Q E hr h => ?_
  · obtain ⟨Ze, ds, _, r, q⟩ := h
    rw [← r.length]
    exact hlen ds H Q E Ze q
  · obtain ⟨Ze, ds, zt, r, q⟩ := h
    have hd := hlen ds H Q E Ze q
    refine ⟨_, hb cdv A outer s H E Ze (lkN_of hK S hr), fun _ => False, envD N.length ds, SR.start (Y := cyOf G Ze 0 E k N) rfl (by rw [hd]; exact hl) zt r, ?_⟩
    unfold defD at q
    rw [if_pos hd] at q
    have sm : ∀ {O' : Addr → Prop} {H' : Hp}, Stp (fun _ => False) H O' H' → Same H H' := fun st a o e => st.1 a o (fun z => z) e
    have zw : ∀ {O' : Addr → Prop}, ∀ a, Ze a → Zo Ze O' a := fun a z => .inl z
    cases eb : b (envD N.length ds) with
    | no => rw [eb] at q; exact q.elim
    | ex e => rw [eb] at q; exact q.elim
    | ok o =>
      rw [eb] at q
      cases o with
      | nx ρ => exact fun O' σ' H' st s' => q .non H' (sm st) rfl
      | bk ρ => exact q.elim
      | ct ρ => exact q.elim
      | rt d ρ => exact fun O' σ' H' v st s' rv => q v H' (sm st) (Rep.weak zw rv)
      | xx e ρ => exact fun O' σ' H' c od st s' xr => q c od H' (sm st) (xr.weak zw)
end
end Tw

set_option maxHeartbeats 2000000
namespace Tw
open PySem PySem.Spec L2 L2H HotX
open PyProof.Rows hiding St
def rzR (i : Nat) : R Out → R Out
  | .ok (.xx z ρ) => match ρ[i]? with | some none => .ok (.xx z ρ) | _ => .no
  | _ => .no
/-- try: b except cn as (i): fs, which raises -/
def sTryR (es : List String) (b : DS) (cn : String) (i : Nat) (fs : Ex → DS) : DS := fun ρ => match b ρ with
  | .ok (.xx e ρ') => if e.cls ∈ es then (if exSub e.cls cn then (match ρ'[i]? with | some none => rzR i (fs e ρ') | _ => .no) else .ok (.xx e ρ')) else .no
  | r => r
theorem nx_xf {e : Ex} {f : Str} : NoX (eXf e f) := fun ρ z h => of_nx (show R.of (lookD e.ks e.vs f) = .ex z from h)
section
variable {X : Cx} {Y : Cy} {O : Addr → Prop} {ρ : DEnv} {σ : L2.St} {H : Hp}
theorem PA.sx {a : Addr} {pn : List (Addr × Obj)} {xe : Value → Shared → Prop} {es : List Expr} {t : TA} (h : PA (X.suite a pn) es t) : PA (sxX X a pn xe) es t :=
  ⟨fun p pins s σ H Q I q => wpAny_mono (h.run p pins s σ H Q (Inv.wish (X := sxX X a pn xe) I fun _ _ => False) q) (fun v s1 ⟨vs, H1, I1, z⟩ => ⟨vs, H1, Inv.unwish (X := sxX X a pn xe) (E := fun _ _ => False) I1, z⟩) fun _ _ z => z.elim⟩
def Cy.gn (Y : Cy) (i : Nat) : Cy := { Y with E := fun c d σ H => Y.E c d (σ.set i none) H }
/-- the suite's reading -/
def tsR (Y : Cy) (es : List String) (i : Nat) (F : Ex → DS) : Addr → Value → Option Addr → TS := fun a cls d N σ H => ∃ e dd, cls = .ref (Y.G.cm e.cls) ∧ d = some dd ∧ e.cls ∈ es ∧ tES (Y.gn i) ⟨e, a, dd, i⟩ (F e) N σ H
theorem ds_tryR {es : List String} {cn an : String} {i jd j : Nat} {xd xc xa n : Str} {den : List D → R D} {a1 b1 : Expr} {as bs : List Expr} {fs : DA} {gs : Ex → DA} {ks : List Str} {pd cpd rpos np pa cpa np2 rpos2 hp pos : Pos}
    (hst : X.stack = X.env :: X.outer) (hfr : X.env.frame = some X.env.locals) (hex : X.ex = []) (hpa : ∀ hd : Option Value, PassesOwnAt (model X.prog X.w) (X.A.mark hd) X.A X.env X.xe)
    (FN : FkN X.prog X.w X.K X.mg X.base Y.G xd den jd) (hjd : jd ≤ Y.lv) (hgd : Gl X xd) (ha : ∀ (pn : List (Addr × Obj)) (xe : Value → Shared → Prop), PDA (X.tr pn xe) Y.nf (a1 :: as) fs) (nxa : NoXA fs)
    (hc : Names X xc (.ref (Y.G.cm cn))) (hi : X.N[i]? = some n) (hl : X.env.kindOf n = some .local) (hexm : ∀ a ∈ es, PySem.W.exmOne X.K (.ref (Y.G.cm a)) (.ref (Y.G.cm cn)) = some (exSub a cn)) (hox : ∀ a ∈ es, OexC X.K (Y.G.cm a))
    (M : XMkH X.prog X.w X.K X.mg X.base Y.G xa an ks j) (hj : j + 1 ≤ Y.lv) (hga : Gl X xa)
    (hg : ∀ (e : Ex) (a dd : Addr) (oe : Obj) (pn : List (Addr × Obj)), SuOk (X.suite a ((a, oe) :: pn)) Y.su ⟨e, a, dd, i⟩ es → PDeA (X.suite a ((a, oe) :: pn)) Y.su ⟨e, a, dd, i⟩ (b1 :: bs) (gs e)) (nxg : ∀ e, NoXA (gs e))
    (hvs : Vis X.env.scope n := by first | exact Or.inl rfl | exact Or.inr (Or.inl rfl) | exact Or.inr (Or.inr rfl)) (hd1 : (n == ("__debug__" : Str)) = false := by decide) (hd2 : (n == ("__classdict__" : Str)) = false := by decide)
    (hdb : (xd == ("__debug__" : Str)) = false := by decide) (he : starEach (a1 :: as) X.env = (false, eval a1 X.env) :: starEach as X.env := by rfl) (hpl : (backTo cpd (starEach as X.env)).any (·.1) = false := by rfl)
    (hdb2 : (xa == ("__debug__" : Str)) = false := by decide) (he2 : starEach (b1 :: bs) X.env = (false, eval b1 X.env) :: starEach bs X.env := by rfl) (hpl2 : (backTo cpa (starEach bs X.env)).any (·.1) = false := by rfl) (hca : Y.ca = true := by rfl) :
    PDS X Y (.Try [.Return (some (.Call (.Name xd pd) (a1 :: as) [] cpd)) rpos] [.ExceptHandler (some (.Name xc np)) (some n) [.Raise (some (.Call (.Name xa pa) (b1 :: bs) [] cpa)) (some (.Name n np2)) rpos2] hp] [] [] pos)
      (sTryR es (sRet (eCall den fs)) cn i (fun e => sRaise an ks (gs e))) := fun k => by
  obtain ⟨f, fd, ps, F, hm, hk, hb⟩ := FN
  obtain ⟨f2, fd2, ps2, F2, T2, iC2, tI2, hm2, hb2, hk9⟩ := M
  refine impPS (ps_tryR (tb := fun W => tDS { Y with E := W } (sRet (eCall den fs))) (ts := tsR Y es i fun e => sRaise an ks (gs e)) hst hfr k.nd hex hc hi hl hpa k.tk (fun W pn xe tkN po => ?body) (fun a oe cls d pn xe hz hf hbase tk2 => ?suite)) fun N σ H ⟨O, ρ, s, q⟩ => ?imp
  case body =>
    have kf : Lk (X.tr pn xe) Y.nf := ⟨k.K, k.ln, fun u s' ⟨a, B, sI, pins, σ, H, cls, d, _, _, _, _, _, _, _, _, z⟩ => z.elim, k.rm, k.hd, k.nd, po, k.calm⟩
    refine pss_one (impPS (ps_ret (pe_callSD (X := X.tr pn xe) (E := WE W) (dvs := []) F ((k.room hca).mono hjd) hgd hm hk hb .nil (fun σ => L2N.passAt tkN σ) (ha pn xe kf) hdb he hpl)) fun N σ H ⟨O, ρ, s, q⟩ => ?_)
    have s0 : SR Y.nf O ρ σ H := (SR.unE (Y := Y) (c := Y.ca) s).reE (c := Y.ca)
    have this : tDA Y.nf fs σ H (fun vs H1 => dsp Y.G den vs H1 N.rt (WE W σ)) := by
      refine ⟨O, ρ, s0, ?_⟩
      have q : SPost { Y with E := W } O H N ((eCall den fs ρ).st ρ fun d => .ok (.rt d ρ)) := q
      unfold eCall at q
      cases ea : fs ρ with
      | ex e => exact absurd ea (nxa ρ e)
      | no => rw [ea] at q; exact q
      | ok ds =>
        rw [ea] at q
        simp only [R.bind_ok] at q
        intro vs H1 s1 rs
        refine dsp_of (Y := { Y with E := W }) (s.same s1) rs ?_
        cases ed : den ds with
        | no => rw [ed] at q; exact q
        | ok d => rw [ed] at q; exact fun v H2 s2 rv => q O σ H2 v (Stp.same (s1.trans s2)) (s.same (s1.trans s2)) rv
        | ex e => rw [ed] at q; exact fun c od H2 s2 xr => q O σ H2 c od (Stp.same (s1.trans s2)) (s.same (s1.trans s2)) xr
    show tCallSD _ _ _ _ σ H N.rt
    unfold tCallSD
    simpa only [List.append_nil] using this
  case suite =>
    refine ⟨fun pins s σ H N I q => ?_⟩
    obtain ⟨e, dd, rfl, rfl, hee, q⟩ := q
    have T0 := hox _ hee
    obtain ⟨vs0, hd0⟩ := id hf
    have hh : HotE (sxX X a ((a, oe) :: pn) xe) (a, oe) (.ref (Y.G.cm e.cls)) := ⟨⟨rfl, vs0, hd0, hz.2.2 vs0 hd0⟩, List.mem_cons_self, hz.1, raises_own T0.exC T0.tyC, hbase⟩
    have pas : ∀ (X : Cx), Passes (L2.CX X.prog X.w) X (fun _ _ _ => False) := fun X pins σ H s u s' I c => by
      obtain ⟨a, B, H', cls, d, _, _, _, _, _, _, _, z⟩ := c
      exact z.elim
    have pa := hg e a dd oe pn ⟨X, oe, pn, rfl, ⟨hz.1, hz.2.1⟩, hf, hee⟩ (k.su a _)
    refine (pss_one (ps_raiseFromH (X := sxX X a ((a, oe) :: pn) xe) hh hex tk2 (pmk5_oexH (X := sxX X a ((a, oe) :: pn) xe) T2 iC2 tI2 F2 (roomH_mark ((k.room hca).mono hj) _) hh.c hb2 (pas _) hga hm2 (PA.sx pa) hdb2 he2 hpl2) (pe_var hi hvs hd1 hd2))).run pins s σ H N I ?_
    obtain ⟨O, ρ, s, x, q⟩ := q
    refine ⟨x.sl, O, ρ, (SR.unE (Y := Y) (c := Y.ca) s).reE (c := false), ⟨x.sl, x.xd⟩, ?_⟩
    have s : SR Y O ρ σ H := SR.unE (c := Y.ca) s
    have q : SPost (Y.gn i) O H N ((gs e ρ).st ρ fun xs => if xs.length = ks.length then .ok (.xx ⟨an, ks.reverse, xs.reverse⟩ ρ) else .no) := q
    cases ea : gs e ρ with
    | no => rw [ea] at q; exact q
    | ex y => exact absurd ea (nxg e ρ y)
    | ok ds =>
      rw [ea] at q
      simp only [R.st_ok] at q
      split at q
      rotate_left
      · exact q.elim
      rename_i hlen
      intro vs H1 s1 rs
      have hvl : vs.length = ks.length := rs.length.symm.trans hlen
      refine ⟨by rw [hvl]; omega, fun b hb => ?_⟩
      rw [List.append_nil]
      refine ⟨b, vs, rfl, hvl, upd_same, fun dx H2 hd hne h1 h2 h3 => ⟨rfl, dx, _, h1, h2, ?_, ?_⟩⟩
      · rwa [upd_ne hne] at hd
      · rw [upd_ne hne] at hd
        have sm : Same H1 (upd (del H2 b) dx (.xd (fKeys ks.reverse vs.reverse))) := fun c o hc => by
          have b1 : c ≠ b := ne_of_none hc hb
          have b2 : c ≠ dx := ne_of_none hc hd
          rw [upd_ne b2, del_ne b1, h3 c b1 b2, upd_ne b1]
          exact hc
        exact q O σ _ _ _ (Stp.same (s1.trans sm)) ((s.same (s1.trans sm)).reE (c := Y.ca)) ⟨rfl, dx, vs.reverse, rfl, upd_same, by rw [List.length_reverse, List.length_reverse, hvl], (rs.same sm).rev⟩
  case imp =>
    refine ⟨O, ρ, s.reE (c := Y.ca), ?_⟩
    unfold sTryR at q
    cases eo : sRet (eCall den fs) ρ with
    | no => rw [eo] at q; exact q
    | ex z => rw [eo] at q; exact q
    | ok o =>
      rw [eo] at q
      cases o with
      | nx ρ2 => exact fun O' σ' H' z s' => q O' σ' H' z (SR.unE (c := Y.ca) s')
      | bk ρ2 => exact fun O' σ' H' z s' => q O' σ' H' z (SR.unE (c := Y.ca) s')
      | ct ρ2 => exact fun O' σ' H' z s' => q O' σ' H' z (SR.unE (c := Y.ca) s')
      | rt d ρ2 => exact fun O' σ' H' v z s' rv => q O' σ' H' v z (SR.unE (c := Y.ca) s') rv
      | xx e ρ2 =>
        intro O' σ' H' c od z s' xr
        have s' : SR Y O' ρ2 σ' H' := SR.unE (c := Y.ca) s'
        have q : SPost Y O H N (if e.cls ∈ es then (if exSub e.cls cn then (match ρ2[i]? with | some none => rzR i (sRaise an ks (gs e) ρ2) | _ => .no) else .ok (.xx e ρ2)) else .no) := q
        split at q
        rotate_left
        · exact q.elim
        rename_i hee
        obtain ⟨rfl, dd, vs, rfl, hx1, hx2, hx3⟩ := id xr
        refine ⟨_, hexm _ hee, fun hb a ha => ?_, fun hb => ?_⟩
        · rw [if_pos (show exSub e.cls cn = true from hb)] at q
          split at q
          rotate_left
          · exact q.elim
          rename_i hi0
          have hlt : i < σ'.length := by
            rw [s'.choose_spec.len.1, ← k.ln]
            exact (List.getElem?_eq_some_iff.mp hi).1
          refine ⟨e, dd, rfl, rfl, hee, O', ρ2, (s'.any hi0).reE (c := Y.ca), ⟨List.getElem?_set_self hlt, vs, hx1, hx2, hx3⟩, ?_⟩
          show SPost (Y.gn i) O' H' (goneE i N) (sRaise an ks (gs e) ρ2)
          cases er : sRaise an ks (gs e) ρ2 with
          | no => rw [er] at q; exact q.elim
          | ex y => rw [er] at q; exact q.elim
          | ok o =>
            rw [er] at q
            cases o with
            | xx y ρ3 =>
              unfold rzR at q
              dsimp only at q
              split at q
              · rename_i h3
                exact fun O2 σ2 H2 c od st s2 xr2 => q O2 _ H2 c od (z.trans st) ((SR.unE (Y := Y) (c := Y.ca) s2).any h3) xr2
              · exact q.elim
            | _ => exact q.elim
        · rw [if_neg (show ¬ exSub e.cls cn = true by rw [hb]; exact Bool.false_ne_true)] at q
          exact q O' σ' H' _ _ z s' xr
end
end Tw

namespace Tw
open PySem
section
variable {α β : Type} {i j n : Nat} {ρ ρ' : DEnv} {x y d v : D} {o : Option Slot} {a b c e : DE} {s t : DS} {as : DA} {is vs : List Nat} {f : Str} {p q : DT} {l m : List D} {it : DI} {g : DG}
def R.seq (r : R Out) (b : DS) : R Out := match r with
  | .ok (.nx ρ) => b ρ
  | r => r
theorem sq_nx : (R.ok (Out.nx ρ)).seq t = t ρ := rfl
theorem sq_rt : (R.ok (Out.rt d ρ)).seq t = .ok (.rt d ρ) := rfl
theorem sq_bk : (R.ok (Out.bk ρ)).seq t = .ok (.bk ρ) := rfl
theorem sq_ct : (R.ok (Out.ct ρ)).seq t = .ok (.ct ρ) := rfl
theorem sq_xx {z : Ex} : (R.ok (Out.xx z ρ)).seq t = .ok (.xx z ρ) := rfl
theorem q_seq : sSeq s t ρ = (s ρ).seq t := rfl
theorem q_next : sNext ρ = .ok (.nx ρ) := rfl
theorem q_brk : sBrk ρ = .ok (.bk ρ) := rfl
theorem q_cnt : sCnt ρ = .ok (.ct ρ) := rfl
def iteS (k : Bool) (s t : DS) (ρ : DEnv) : R Out := if k then s ρ else t ρ
theorem ite_t : iteS true s t ρ = s ρ := rfl
theorem ite_f : iteS false s t ρ = t ρ := rfl
theorem q_if : sIf p s t ρ = (p ρ).st ρ fun k => iteS k s t ρ := rfl
theorem v_z : eVar 0 (some (.val d) :: ρ) = .ok d := rfl
theorem v_s : eVar (i + 1) (o :: ρ) = eVar i ρ := rfl
theorem k_zv : eLook 0 (some (.val d) :: ρ) = .ok d := rfl
theorem k_zo : eLook 0 (some (.own d) :: ρ) = .ok d := rfl
theorem k_s : eLook (i + 1) (o :: ρ) = eLook i ρ := rfl
theorem st_zn : setV 0 d (none :: ρ) = .ok (some (.val d) :: ρ) := rfl
theorem st_zv : setV 0 d (some (.val v) :: ρ) = .ok (some (.val d) :: ρ) := rfl
theorem st_zo : setV 0 d (some (.own v) :: ρ) = .ok (some (.val d) :: ρ) := rfl
theorem so_zn : setO 0 d (none :: ρ) = .ok (some (.own d) :: ρ) := rfl
theorem so_zv : setO 0 d (some (.val v) :: ρ) = .ok (some (.own d) :: ρ) := rfl
theorem so_zo : setO 0 d (some (.own v) :: ρ) = .ok (some (.own d) :: ρ) := rfl
def consR (o : Option Slot) (r : R DEnv) : R DEnv := r.bind fun ρ => .ok (o :: ρ)
theorem cr_ok : consR o (.ok ρ) = .ok (o :: ρ) := rfl
theorem st_s : setV (i + 1) d (o :: ρ) = consR o (setV i d ρ) := by
  unfold setV consR
  simp only [List.getElem?_cons_succ, List.set_cons_succ]
  cases h : ρ[i]? with
  | none => rfl
  | some o => cases o with
    | none => rfl
    | some o => cases o <;> rfl
theorem so_s : setO (i + 1) d (o :: ρ) = consR o (setO i d ρ) := by
  unfold setO consR
  simp only [List.getElem?_cons_succ, List.set_cons_succ]
  cases h : ρ[i]? with
  | none => rfl
  | some o => cases o with
    | none => rfl
    | some o => cases o <;> rfl
theorem fz_zo : frzD 0 (some (.own d) :: ρ) = some (.val d) :: ρ := rfl
theorem fz_zv : frzD 0 (some (.val d) :: ρ) = some (.val d) :: ρ := rfl
theorem fz_zn : frzD 0 (none :: ρ) = none :: ρ := rfl
theorem fz_s : frzD (i + 1) (o :: ρ) = o :: frzD i ρ := by
  unfold frzD
  simp only [List.getElem?_cons_succ, List.set_cons_succ]
  cases h : ρ[i]? with
  | none => rfl
  | some o => cases o with
    | none => rfl
    | some o => cases o <;> rfl
theorem cl_zo : clr1 0 (some (.own d) :: ρ) = none :: ρ := rfl
theorem cl_zv : clr1 0 (some (.val d) :: ρ) = none :: ρ := rfl
theorem cl_zn : clr1 0 (none :: ρ) = none :: ρ := rfl
theorem cl_s : clr1 (i + 1) (o :: ρ) = o :: clr1 i ρ := by
  unfold clr1
  simp only [List.getElem?_cons_succ, List.set_cons_succ]
  cases h : ρ[i]? with
  | none => rfl
  | some o => cases o with
    | none => rfl
    | some o => cases o <;> rfl
theorem cd_n : clrD [] ρ = ρ := rfl
theorem cd_c : clrD (i :: is) ρ = clrD is (clr1 i ρ) := rfl
def frzL (is : List Nat) (ρ : DEnv) : DEnv := is.foldl (fun r i => frzD i r) ρ
theorem fl_n : frzL [] ρ = ρ := rfl
theorem fl_c : frzL (i :: is) ρ = frzL is (frzD i ρ) := rfl
theorem q_frz : sFrz is s ρ = s (frzL is ρ) := rfl
theorem q_clr : sClr is ρ = .ok (.nx (clrD is ρ)) := rfl
theorem wp_n : wipD [] ρ = ρ := rfl
theorem wp_c : wipD (i :: is) ρ = (wipD is ρ).set i none := rfl
def ok1 (i : Nat) (ρ : DEnv) : Bool := match ρ[i]? with
  | some none => true
  | some (some (.val _)) => true
  | _ => false
theorem ow_n : okW [] ρ = true := rfl
theorem ow_c : okW (i :: is) ρ = (ok1 i ρ && okW is ρ) := rfl
theorem o1_zn : ok1 0 (none :: ρ) = true := rfl
theorem o1_zv : ok1 0 (some (.val d) :: ρ) = true := rfl
theorem o1_s : ok1 (i + 1) (o :: ρ) = ok1 i ρ := rfl
theorem t_z {o' : Option Slot} : (o :: ρ).set 0 o' = o' :: ρ := rfl
theorem t_s {o' : Option Slot} : (o :: ρ).set (i + 1) o' = o :: ρ.set i o' := rfl
theorem q_c : eC d ρ = .ok d := rfl
theorem q_e1 {h : D → Option D} : e1 h a ρ = (a ρ).bind fun x => R.of (h x) := rfl
theorem q_e2 {h : D → D → Option D} : e2 h a b ρ = (a ρ).bind fun x => (b ρ).bind fun y => R.of (h x y) := rfl
theorem q_an : aNil ρ = .ok [] := rfl
theorem q_ac : aCons a as ρ = (a ρ).bind fun x => (as ρ).bind fun xs => .ok (x :: xs) := rfl
theorem q_call {h : List D → R D} : eCall h as ρ = (as ρ).bind h := rfl
def methS (cs : List String) (h : List D → R D) (as : DA) (ρ : DEnv) (x : D) : R D := match x with
  | .obj c ks vs => if c ∈ cs then (as ρ).bind fun xs => h (.obj c ks vs :: xs) else .no
  | _ => .no
theorem q_meth {cs : List String} {h : List D → R D} : eMeth cs h a as ρ = (a ρ).bind (methS cs h as ρ) := by
  unfold eMeth methS
  cases a ρ with
  | ok x => cases x <;> rfl
  | ex e => rfl
  | no => rfl
theorem m_obj {cn : String} {h : List D → R D} {ks : List Str} {ds : List D} : methS [cn] h as ρ (.obj cn ks ds) = (as ρ).bind fun xs => h (.obj cn ks ds :: xs) := if_pos List.mem_cons_self
theorem m_obj2 {cn cm : String} {h : List D → R D} {ks : List Str} {ds : List D} : methS [cn, cm] h as ρ (.obj cn ks ds) = (as ρ).bind fun xs => h (.obj cn ks ds :: xs) := if_pos List.mem_cons_self
theorem m_obj3 {cn cm : String} {h : List D → R D} {ks : List Str} {ds : List D} : methS [cm, cn] h as ρ (.obj cn ks ds) = (as ρ).bind fun xs => h (.obj cn ks ds :: xs) := if_pos (List.mem_cons_of_mem _ List.mem_cons_self)
def seqS (mk : List D → D) (xs : List D) : R D := if xs.length ≤ lineD then .ok (mk xs) else .no
theorem q_tup : eTup as ρ = (as ρ).bind (seqS .tup) := rfl
theorem q_lst : eLst as ρ = (as ρ).bind (seqS .lst) := rfl
variable {mk : List D → D} {x0 x1 x2 x3 x4 x5 x6 x7 x8 x9 : D}
theorem sS (h : l.length ≤ 1000000) : seqS mk l = .ok (mk l) := if_pos (Nat.le_trans h (by decide))
theorem sS0 : seqS mk [] = .ok (mk []) := sS (Nat.le_of_ble_eq_true rfl)
theorem sS1 : seqS mk [x0] = .ok (mk [x0]) := sS (Nat.le_of_ble_eq_true rfl)
theorem sS2 : seqS mk [x0, x1] = .ok (mk [x0, x1]) := sS (Nat.le_of_ble_eq_true rfl)
theorem sS3 : seqS mk [x0, x1, x2] = .ok (mk [x0, x1, x2]) := sS (Nat.le_of_ble_eq_true rfl)
theorem sS4 : seqS mk [x0, x1, x2, x3] = .ok (mk [x0, x1, x2, x3]) := sS (Nat.le_of_ble_eq_true rfl)
theorem sS5 : seqS mk [x0, x1, x2, x3, x4] = .ok (mk [x0, x1, x2, x3, x4]) := sS (Nat.le_of_ble_eq_true rfl)
theorem sS6 : seqS mk [x0, x1, x2, x3, x4, x5] = .ok (mk [x0, x1, x2, x3, x4, x5]) := sS (Nat.le_of_ble_eq_true rfl)
theorem sS7 : seqS mk [x0, x1, x2, x3, x4, x5, x6] = .ok (mk [x0, x1, x2, x3, x4, x5, x6]) := sS (Nat.le_of_ble_eq_true rfl)
theorem sS8 : seqS mk [x0, x1, x2, x3, x4, x5, x6, x7] = .ok (mk [x0, x1, x2, x3, x4, x5, x6, x7]) := sS (Nat.le_of_ble_eq_true rfl)
def ifE (k : Bool) (a b : DE) (ρ : DEnv) : R D := if k then a ρ else b ρ
theorem q_ife : eIf p a b ρ = (p ρ).bind fun k => ifE k a b ρ := rfl
theorem ie_t : ifE true a b ρ = a ρ := rfl
theorem ie_f : ifE false a b ρ = b ρ := rfl
def andE (b : DE) (ρ : DEnv) (x : D) : R D := match x with | .bl true => b ρ | .bl false => .ok (.bl false) | _ => .no
def orE (b : DE) (ρ : DEnv) (x : D) : R D := match x with | .bl false => b ρ | .bl true => .ok (.bl true) | _ => .no
def notE (x : D) : R D := match x with | .bl k => .ok (.bl (!k)) | _ => .no
theorem q_and : eAnd a b ρ = (a ρ).bind (andE b ρ) := by
  unfold eAnd andE
  cases a ρ with
  | ok x => cases x <;> first | rfl | (rename_i k; cases k <;> rfl)
  | ex e => rfl
  | no => rfl
theorem q_or : eOr a b ρ = (a ρ).bind (orE b ρ) := by
  unfold eOr orE
  cases a ρ with
  | ok x => cases x <;> first | rfl | (rename_i k; cases k <;> rfl)
  | ex e => rfl
  | no => rfl
theorem q_not : eNot a ρ = (a ρ).bind notE := by
  unfold eNot notE
  cases a ρ with
  | ok x => cases x <;> rfl
  | ex e => rfl
  | no => rfl
theorem ae_t : andE b ρ (.bl true) = b ρ := rfl
theorem ae_f : andE b ρ (.bl false) = .ok (.bl false) := rfl
theorem oe_t : orE b ρ (.bl true) = .ok (.bl true) := rfl
theorem oe_f : orE b ρ (.bl false) = b ρ := rfl
theorem ne_k {k : Bool} : notE (.bl k) = .ok (.bl (!k)) := rfl
theorem q_xn : xNone ρ = .ok none := rfl
def ixS (x : D) : R (Option Int) := match x with | .int i => .ok (some i) | _ => .no
theorem q_xs : xSome a ρ = (a ρ).bind ixS := by
  unfold xSome ixS
  cases a ρ with
  | ok x => cases x <;> rfl
  | ex e => rfl
  | no => rfl
theorem xi_i {k : Int} : ixS (.int k) = .ok (some k) := rfl
theorem q_sl {lo hi : DO} : eSl a lo hi ρ = (a ρ).bind fun x => (lo ρ).bind fun l => (hi ρ).bind fun h => R.of (oSl l h x) := rfl
def tvS (x : D) : R Bool := match x with | .bl k => .ok k | _ => .no
theorem q_tv : tVal a ρ = (a ρ).bind tvS := by
  unfold tVal tvS
  cases a ρ with
  | ok x => cases x <;> rfl
  | ex e => rfl
  | no => rfl
theorem tv_b {k : Bool} : tvS (.bl k) = .ok k := rfl
theorem q_tt : tTru a ρ = (a ρ).bind fun x => R.of (truD x) := rfl
def andT (k : Bool) (q : DT) (ρ : DEnv) : R Bool := if k then q ρ else .ok false
def orT (k : Bool) (q : DT) (ρ : DEnv) : R Bool := if k then .ok true else q ρ
theorem q_ta : tAndD p q ρ = (p ρ).bind fun k => andT k q ρ := rfl
theorem q_to : tOrD p q ρ = (p ρ).bind fun k => orT k q ρ := rfl
theorem q_tn : tNotD p ρ = (p ρ).bind fun k => .ok (!k) := rfl
theorem at_t : andT true q ρ = q ρ := rfl
theorem at_f : andT false q ρ = .ok false := rfl
theorem ot_t : orT true q ρ = .ok true := rfl
theorem ot_f : orT false q ρ = q ρ := rfl
theorem q_ty : tYesD ρ = .ok true := rfl
theorem q_set : sSet i a ρ = (a ρ).st ρ fun d => (setV i d ρ).bind fun ρ' => .ok (.nx ρ') := rfl
theorem q_own : sOwn i a ρ = (a ρ).st ρ fun d => (setO i d ρ).bind fun ρ' => .ok (.nx ρ') := rfl
theorem q_asg : sAsg a g ρ = (a ρ).st ρ fun d => (g d ρ).bind fun ρ' => .ok (.nx ρ') := rfl
theorem q_drop : sDrop a ρ = (a ρ).st ρ fun _ => .ok (.nx ρ) := rfl
theorem q_ret : sRet a ρ = (a ρ).st ρ fun d => .ok (.rt d ρ) := rfl
theorem q_retn : sRetN ρ = .ok (.rt .non ρ) := rfl
def getO (i : Nat) (ρ : DEnv) : Option Slot := match ρ[i]? with | some o => o | none => none
theorem go_z : getO 0 (o :: ρ) = o := rfl
theorem go_s : getO (i + 1) (o :: ρ) = getO i ρ := rfl
def appS (i : Nat) (e : DE) (ρ : DEnv) (o : Option Slot) : R Out := match o with
  | some (.own (.lst l)) => (e ρ).st ρ fun y => if l.length < lineD then .ok (.nx (ρ.set i (some (.own (.lst (l ++ [y])))))) else .no
  | _ => .no
theorem q_app : sApp i a ρ = appS i a ρ (getO i ρ) := by
  unfold sApp appS getO
  cases h : ρ[i]? with
  | none => rfl
  | some o => cases o with
    | none => rfl
    | some o => cases o <;> first | rfl | (rename_i d; cases d <;> rfl)
def ltS {α : Type} (n : Nat) (r : R α) : R α := if n < lineD then r else .no
theorem lt_ok {r : R α} (h : n < 1000000) : ltS n r = r := if_pos (Nat.lt_trans h (by decide))
theorem ap_l : appS i a ρ (some (.own (.lst l))) = (a ρ).st ρ fun y => ltS l.length (.ok (.nx (ρ.set i (some (.own (.lst (l ++ [y]))))))) := rfl
def clrS (i : Nat) (ρ : DEnv) (o : Option Slot) : R Out := match o with
  | some (.own (.lst _)) => .ok (.nx (ρ.set i (some (.own (.lst [])))))
  | _ => .no
theorem q_clear : sClear i ρ = clrS i ρ (getO i ρ) := by
  unfold sClear clrS getO
  cases h : ρ[i]? with
  | none => rfl
  | some o => cases o with
    | none => rfl
    | some o => cases o <;> first | rfl | (rename_i d; cases d <;> rfl)
theorem cs_l : clrS i ρ (some (.own (.lst l))) = .ok (.nx (ρ.set i (some (.own (.lst []))))) := rfl
def augS (i : Nat) (h : D → D → Option D) (e : DE) (ρ : DEnv) (o : Option Slot) : R Out := match o with
  | some (.val x) => (e ρ).st ρ fun y => (R.of (h x y)).bind fun z => (setV i z ρ).bind fun ρ' => .ok (.nx ρ')
  | _ => .no
theorem q_aug {h : D → D → Option D} : sAug i h a ρ = augS i h a ρ (getO i ρ) := by
  unfold sAug augS getO
  cases e : ρ[i]? with
  | none => rfl
  | some o => cases o with
    | none => rfl
    | some o => cases o with
      | val x =>
        show R.st _ _ _ = R.st _ _ _
        congr 1
        funext y
        cases h x y <;> rfl
      | _ => rfl
theorem au_v {h : D → D → Option D} : augS i h a ρ (some (.val x)) = (a ρ).st ρ fun y => (R.of (h x y)).bind fun z => (setV i z ρ).bind fun ρ' => .ok (.nx ρ') := rfl
def fldS (i : Nat) (f : Str) (v : D) (ρ : DEnv) (o : Option Slot) : R Out := match o with
  | some (.slf d) => (R.of (putF f v d)).bind fun d' => .ok (.nx (ρ.set i (some (.slf d'))))
  | _ => .no
theorem q_fld : sFld i f a ρ = (a ρ).st ρ fun v => fldS i f v ρ (getO i ρ) := by
  unfold sFld fldS getO
  congr 1
  funext v
  cases e : ρ[i]? with
  | none => rfl
  | some o => cases o with
    | none => rfl
    | some o => cases o with
      | slf d =>
        show (match putF f v d with | some d' => _ | _ => _) = (R.of (putF f v d)).bind _
        cases putF f v d <;> rfl
      | _ => rfl
theorem fs_s : fldS i f v ρ (some (.slf d)) = (R.of (putF f v d)).bind fun d' => .ok (.nx (ρ.set i (some (.slf d')))) := rfl
theorem q_for : sFor it g is s ρ = (it ρ).st ρ fun l => forL g is s l (clrD is ρ) := rfl
def R.lp (r : R Out) (is : List Nat) (k : DEnv → R Out) : R Out := match r with
  | .ok (.nx ρ) => k (clrD is ρ)
  | .ok (.ct ρ) => k (clrD is ρ)
  | .ok (.bk ρ) => .ok (.nx ρ)
  | r => r
theorem lp_nx {k : DEnv → R Out} : (R.ok (Out.nx ρ)).lp is k = k (clrD is ρ) := rfl
theorem lp_ct {k : DEnv → R Out} : (R.ok (Out.ct ρ)).lp is k = k (clrD is ρ) := rfl
theorem lp_bk {k : DEnv → R Out} : (R.ok (Out.bk ρ)).lp is k = .ok (.nx ρ) := rfl
theorem lp_rt {k : DEnv → R Out} : (R.ok (Out.rt d ρ)).lp is k = .ok (.rt d ρ) := rfl
theorem lp_xx {k : DEnv → R Out} {z : Ex} : (R.ok (Out.xx z ρ)).lp is k = .ok (.xx z ρ) := rfl
theorem f_n : forL g is s [] ρ = .ok (.nx ρ) := rfl
theorem f_c : forL g is s (x :: l) ρ = ((g x ρ).bind s).lp is (forL g is s l) := by
  show (match (g x ρ).bind s with | .ok (.nx ρ') => _ | .ok (.ct ρ') => _ | .ok (.bk ρ') => _ | r => r) = _
  unfold R.lp
  cases (g x ρ).bind s with
  | ok o => cases o <;> rfl
  | ex e => rfl
  | no => rfl
theorem g_v : gVar i x ρ = setV i x ρ := rfl
theorem g_t : gTupD is (.tup l) ρ = gVars is l ρ := rfl
theorem g_vn : gVars [] [] ρ = .ok ρ := rfl
theorem g_vc : gVars (i :: is) (x :: l) ρ = (setV i x ρ).bind fun ρ' => gVars is l ρ' := rfl
theorem q_io : iOf a ρ = (a ρ).bind fun x => R.of (iterD x) := rfl
theorem q_ir : iRange a ρ = (a ρ).bind rngR := rfl
theorem rg_i {k : Int} (h : 0 ≤ k) (h2 : k < 1000000000) : rngR (.int k) = .ok (rangeD k) := rngR_ok (rngOk_of h h2)
theorem rg_n {k : Nat} (h2 : k < 1000000000) : rngR (.int k) = .ok ((List.range k).map fun i : Nat => .int i) := by
  rw [rg_i (Int.natCast_nonneg k) (by omega)]
  rfl
def cStep (g : DG) (c : DT) (e : DE) (ρ : DEnv) (x : D) : R (Option D) := (g x ρ).bind fun ρ' => (c ρ').bind fun k => if k then (e ρ').bind fun y => .ok (some y) else .ok none
theorem compL_fm (h : α → D) (w : α → Option D) : ∀ l : List α, (∀ x ∈ l, cStep g p e ρ (h x) = .ok (w x)) → compL g p e ρ (l.map h) = .ok (l.filterMap w)
  | [], _ => rfl
  | x :: l, hs => by
    have ih := compL_fm h w l fun y hy => hs y (List.mem_cons_of_mem _ hy)
    have h1 := hs x List.mem_cons_self
    unfold cStep at h1
    rw [List.map_cons]
    unfold compL
    cases e1 : g (h x) ρ with
    | ex z => rw [e1] at h1; cases h1
    | no => rw [e1] at h1; cases h1
    | ok ρ1 =>
      rw [e1] at h1
      simp only [R.bind_ok] at h1 ⊢
      cases e2 : p ρ1 with
      | ex z => rw [e2] at h1; cases h1
      | no => rw [e2] at h1; cases h1
      | ok k =>
        rw [e2] at h1
        simp only [R.bind_ok] at h1
        cases k with
        | false =>
          simp only [Bool.false_eq_true, if_false] at h1
          cases hw : w x with
          | none => simp only [List.filterMap_cons, hw, ih]
          | some y => rw [hw] at h1; cases h1
        | true =>
          simp only [if_true] at h1
          cases e3 : e ρ1 with
          | ex z => rw [e3] at h1; cases h1
          | no => rw [e3] at h1; cases h1
          | ok y =>
            rw [e3] at h1
            simp only [R.bind_ok] at h1
            cases hw : w x with
            | none => rw [hw] at h1; cases h1
            | some y' =>
              rw [hw] at h1
              cases h1
              simp only [List.filterMap_cons, hw, ih]
def compS (g : DG) (p : DT) (e : DE) (vs : List Nat) (ρ : DEnv) (l : List D) : R D := if l.length ≤ lineD ∧ okW vs ρ = true then (compL g p e (wipD vs ρ) l).bind fun ys => .ok (.lst ys) else .no
theorem q_comp : eComp it vs g p e ρ = (it ρ).bind (compS g p e vs ρ) := rfl
/-- a comprehension over l.map h -/
theorem comp_fm (h : α → D) (w : α → Option D) {l : List α} (hl : l.length ≤ 1000000) (ho : okW vs ρ = true) (hs : ∀ x ∈ l, cStep g p e (wipD vs ρ) (h x) = .ok (w x)) : compS g p e vs ρ (l.map h) = .ok (.lst (l.filterMap w)) := by
  unfold compS
  rw [if_pos ⟨by rw [List.length_map]; exact Nat.le_trans hl (by decide), ho, ⟩, compL_fm h w l hs]
  rfl
theorem comp_map (h : α → D) (w : α → D) {l : List α} (hl : l.length ≤ 1000000) (ho : okW vs ρ = true) (hs : ∀ x ∈ l, cStep g p e (wipD vs ρ) (h x) = .ok (some (w x))) : compS g p e vs ρ (l.map h) = .ok (.lst (l.map w)) := by
  rw [comp_fm h (fun x => some (w x)) hl ho hs]
  exact congrArg (fun z => R.ok (D.lst z)) (congrFun List.filterMap_eq_map l)
theorem comp_filter (h : α → D) (w : α → D) (pr : α → Bool) {l : List α} (hl : l.length ≤ 1000000) (ho : okW vs ρ = true) (hs : ∀ x ∈ l, cStep g p e (wipD vs ρ) (h x) = .ok (if pr x then some (w x) else none)) : compS g p e vs ρ (l.map h) = .ok (.lst ((l.filter pr).map w)) := by
  rw [comp_fm h (fun x => if pr x then some (w x) else none) hl ho hs]
  congr 2
  clear hs hl
  induction l with
  | nil => rfl
  | cons x l ih => by_cases k : pr x <;> simp [List.filterMap_cons, List.filter_cons, k, ih]
def finD (r : R Out) : R D := match r with
  | .ok (.rt d _) => .ok d
  | .ok (.nx _) => .ok .non
  | .ok (.xx e _) => .ex e
  | _ => .no
theorem fd_rt : finD (.ok (.rt d ρ)) = .ok d := rfl
theorem fd_nx : finD (.ok (.nx ρ)) = .ok .non := rfl
theorem fd_xx {z : Ex} : finD (.ok (.xx z ρ)) = .ex z := rfl
def finI (r : R Out) : R (D × D) := match r with
  | .ok (.rt d ρ) => slfP ρ d
  | .ok (.nx ρ) => slfP ρ .non
  | .ok (.xx e _) => .ex e
  | _ => .no
theorem fi_nx : finI (.ok (.nx ρ)) = slfP ρ .non := rfl
theorem fi_rt : finI (.ok (.rt d ρ)) = slfP ρ d := rfl
theorem fi_xx {z : Ex} : finI (.ok (.xx z ρ)) = .ex z := rfl
end
section
variable {i j : Int} {a b : Bool} {s t f : Str} {l m ds : List D} {k : Nat} {ks : List Str} {c : String} {ns : List Int}
theorem p_add : oAdd (.int i) (.int j) = some (.int (i + j)) := rfl
theorem p_sub : oSub (.int i) (.int j) = some (.int (i - j)) := rfl
theorem p_adds (h : s.length + t.length ≤ 1000000) : oAdd (.str s) (.str t) = some (.str (s ++ t)) := if_pos (Nat.le_trans h (by decide))
theorem p_addl (h : l.length + m.length ≤ 1000000) : oAdd (.lst l) (.lst m) = some (.lst (l ++ m)) := if_pos (Nat.le_trans h (by decide))
theorem p_addt (h : l.length + m.length ≤ 1000000) : oAdd (.tup l) (.tup m) = some (.tup (l ++ m)) := if_pos (Nat.le_trans h (by decide))
theorem p_mod (h : 0 < j) : oMod (.int i) (.int j) = some (.int (i % j)) := if_pos h
theorem p_fdiv (h : 0 < j) (h2 : j < 1073741824) : oFdiv (.int i) (.int j) = some (.int (i / j)) := if_pos ⟨h, h2⟩
theorem p_lt : oLt (.int i) (.int j) = some (.bl (decide (i < j))) := rfl
theorem p_le : oLe (.int i) (.int j) = some (.bl (decide (i ≤ j))) := rfl
theorem p_gt : oGt (.int i) (.int j) = some (.bl (decide (j < i))) := rfl
theorem p_ge : oGe (.int i) (.int j) = some (.bl (decide (j ≤ i))) := rfl
theorem p_eqi : oEq (.int i) (.int j) = some (.bl (decide (i = j))) := by
  show some (D.bl (i == j)) = _
  by_cases h : i = j <;> simp [h]
theorem p_nei : oNe (.int i) (.int j) = some (.bl (!decide (i = j))) := by
  show some (D.bl (!(i == j))) = _
  by_cases h : i = j <;> simp [h]
theorem p_eqs : oEq (.str s) (.str t) = some (.bl (s == t)) := rfl
theorem p_nes : oNe (.str s) (.str t) = some (.bl (!(s == t))) := rfl
theorem p_eqb : oEq (.bl a) (.bl b) = some (.bl (a == b)) := rfl
theorem p_neb : oNe (.bl a) (.bl b) = some (.bl (!(a == b))) := rfl
theorem p_int : oInt (.int i) = some (.int i) := rfl
theorem p_intb : oInt (.bl a) = some (.int (if a then 1 else 0)) := rfl
theorem p_neg : oNeg (.int i) = some (.int (-i)) := rfl
theorem p_lenl : oLen (.lst l) = some (.int l.length) := rfl
theorem p_lent : oLen (.tup l) = some (.int l.length) := rfl
theorem p_lenc : oLen (.scr ns) = some (.int ns.length) := rfl
theorem p_lens (h : s.length ≤ 1000000) : oLen (.str s) = some (.int s.length) := if_pos (Nat.le_trans h (by decide))
theorem p_listl : oList (.lst l) = some (.lst l) := rfl
theorem p_listt : oList (.tup l) = some (.lst l) := rfl
theorem p_tupl : oTuple (.lst l) = some (.tup l) := rfl
theorem p_tupt : oTuple (.tup l) = some (.tup l) := rfl
theorem p_max : oMax (.int i) (.int j) = some (.int (if j > i then j else i)) := rfl
theorem p_isn : oIsN .non = some (.bl true) := rfl
theorem p_isnn : oIsNotN .non = some (.bl false) := rfl
theorem p_ixl : oIx (.lst l) (.int i) = atD l i := by
  show (match atD l i with | some v => some v | none => none) = _
  cases atD l i <;> rfl
theorem p_ixt : oIx (.tup l) (.int i) = atD l i := by
  show (match atD l i with | some v => some v | none => none) = _
  cases atD l i <;> rfl
theorem p_ixc : oIx (.scr ns) (.int i) = (atD ns i).map .int := by
  show (match atD ns i with | some v => some (D.int v) | none => none) = _
  cases atD ns i <;> rfl
theorem p_ixd : oIx (.dct ks ds) (.str s) = lookD ks ds s := by
  show (match lookD ks ds s with | some v => some v | none => none) = _
  cases lookD ks ds s <;> rfl
theorem p_fld : oFld f (.obj c ks ds) = lookD ks ds f := by
  show (match lookD ks ds f with | some v => some v | none => none) = _
  cases lookD ks ds f <;> rfl
theorem p_at0 {α : Type} {x : α} {l : List α} : atD (x :: l) 0 = some x := rfl
theorem p_atn {α : Type} {l : List α} : atD l (k : Int) = l[k]? := by
  unfold atD
  rw [if_pos (Int.natCast_nonneg k), Int.toNat_natCast]
theorem p_at1 {α : Type} {l : List α} : atD l (-1) = l.getLast? := by
  unfold atD
  rw [if_neg (by decide)]
  cases l with
  | nil => rfl
  | cons x l =>
    rw [if_pos (by simp; omega), List.getLast?_eq_getElem?]
    congr 1
    simp
    omega
theorem p_trub : truD (.bl a) = some a := rfl
theorem p_trul : truD (.lst l) = some (!l.isEmpty) := rfl
theorem p_trut : truD (.tup l) = some (!l.isEmpty) := rfl
theorem p_trun : truD .non = some false := rfl
theorem p_itl : iterD (.lst l) = some l := rfl
theorem p_itt : iterD (.tup l) = some l := rfl
theorem p_isib : oIsi "bool" (.bl a) = some (.bl true) := rfl
theorem p_isit : oIsi "tuple" (.tup l) = some (.bl true) := rfl
theorem p_isil : oIsi "list" (.lst l) = some (.bl true) := rfl
theorem p_isis : oIsi "str" (.str s) = some (.bl true) := rfl
theorem p_isii : oIsi "int" (.int i) = some (.bl true) := rfl
theorem p_isibi : oIsi "bool" (.int i) = some (.bl false) := rfl
theorem b_tt : (true == true) = true := rfl
theorem b_ff : (false == false) = true := rfl
theorem b_tf : (true == false) = false := rfl
theorem b_ft : (false == true) = false := rfl
theorem nt_t : (!true) = false := rfl
theorem nt_f : (!false) = true := rfl
end
end Tw

namespace Tw
open PySem
def b_law_row_1 : DS := sSeq (sApp 3 (e2 oMod (e1 oInt (eVar 4)) (eVar 5))) (sSet 4 (e2 oFdiv (e1 oInt (eVar 4)) (eVar 5)))
def b_law_row_2 : DS := sSeq (sSet 7 (e2 oMod (e1 oInt (e2 oAdd (e2 oAdd (e2 oAdd (e2 oMul (eVar 4) (eC (.int 48271))) (e2 oMul (eVar 1) (eC (.int 7919)))) (e2 oMul (eVar 6) (eC (.int 69621)))) (eC (.int 11)))) (eC (.int 2147483647)))) (sSeq (sSet 7 (e2 oMod (e1 oInt (e2 oAdd (e2 oAdd (e2 oMul (eVar 7) (e2 oAdd (e2 oFdiv (eVar 7) (eC (.int 1024))) (eC (.int 16807)))) (eVar 4)) (eVar 6))) (eC (.int 2147483399)))) (sApp 3 (e2 oMod (e1 oInt (e2 oFdiv (eVar 7) (eC (.int 11)))) (e2 oIx (eVar 2) (eVar 6)))))
def b_law_row : DS := sSeq (sOwn 3 (eLst (aNil))) (sSeq (sSet 4 (e1 oAbs (e1 oInt (eVar 0)))) (sSeq (sIf (tVal (e2 oGe (eVar 4) (e2 oPow (eC (.int 10)) (eC (.int 18))))) (sSeq (sFor (iOf (eVar 2)) (gVar 5) [5] b_law_row_1) (sFrz [3] (sRet (eVar 3)))) (sNext)) (sSeq (sFor (iRange (e1 oLen (eVar 2))) (gVar 6) [6, 7] b_law_row_2) (sFrz [3] (sRet (eVar 3))))))
def d_law_row : List D → R D := defD 8 3 b_law_row
def b_law_cell : DS := sSeq (sIf (tVal (e2 oLt (eVar 1) (e1 oLen (eVar 0)))) (sRet (e1 oInt (e2 oIx (eVar 0) (eVar 1)))) (sNext)) (sRet (e2 oMod (e1 oInt (e2 oAdd (e2 oAdd (e2 oMul (e1 oSum (eVar 0)) (eC (.int 31))) (e2 oMul (eVar 1) (eC (.int 1009)))) (e1 oLen (eVar 0)))) (eC (.int 1000003))))
def d_law_cell : List D → R D := defD 2 2 b_law_cell
def b_law_word : DS := sSeq (sSet 2 (eC (.str "ABCDEFGHIJKLMNOPQRSTUVWXYZabcdefghijklmnopqrstuvwxyz"))) (sSeq (sSet 3 (e2 oIx (eLst (aCons (eC (.str "")) (aCons (eC (.str "q")) (aCons (eC (.str "Zx")) (aCons (eC (.str "n7w")) (aNil)))))) (e2 oMod (e1 oInt (eVar 0)) (eC (.int 4))))) (sSeq (sSet 4 (e2 oIx (eLst (aCons (eC (.str "")) (aCons (eC (.str "0")) (aCons (eC (.str "aB")) (aCons (eC (.str "9k")) (aNil)))))) (e2 oMod (e2 oFdiv (e1 oInt (eVar 0)) (eC (.int 4))) (eC (.int 4))))) (sSeq (sIf (tVal (e2 oEq (e2 oMod (e2 oFdiv (e1 oInt (eVar 0)) (eC (.int 16))) (eC (.int 2))) (eC (.int 1)))) (sSet 4 (e2 oAdd (eVar 4) (e2 oMul (eC (.str "z")) (e1 oInt (e2 oMod (e1 oInt (eVar 1)) (eC (.int 2))))))) (sNext)) (sSeq (sIf (tVal (e2 oGe (eVar 1) (eC (.int 52)))) (sSet 4 (e2 oAdd (eC (.str "y")) (eVar 4))) (sNext)) (sRet (e2 oAdd (e2 oAdd (eVar 3) (e2 oIx (eVar 2) (e2 oMod (e1 oInt (e2 oAdd (e2 oMul (eVar 1) (eC (.int 5))) (e2 oFdiv (e1 oInt (eVar 0)) (eC (.int 32))))) (eC (.int 52))))) (eVar 4)))))))
def d_law_word : List D → R D := defD 5 2 b_law_word
def b_Titled_is_word_1 : DS := sIf (tAndD (tVal (e2 oNotIn (eVar 1) (eC (.str "ABCDEFGHIJKLMNOPQRSTUVWXYZabcdefghijklmnopqrstuvwxyz")))) (tVal (e2 oNotIn (eVar 1) (eC (.str "0123456789"))))) (sRet (eC (.bl false))) (sNext)
def b_Titled_is_word : DS := sSeq (sIf (tOrD (tVal (e2 oLt (e1 oLen (eVar 0)) (eC (.int 1)))) (tOrD (tVal (e2 oGt (e1 oLen (eVar 0)) (eC (.int 8)))) (tVal (e2 oNotIn (e2 oIx (eVar 0) (eC (.int 0))) (eC (.str "ABCDEFGHIJKLMNOPQRSTUVWXYZabcdefghijklmnopqrstuvwxyz")))))) (sRet (eC (.bl false))) (sNext)) (sSeq (sFor (iOf (eVar 0)) (gVar 1) [1] b_Titled_is_word_1) (sRet (eC (.bl true))))
def d_Titled_is_word : List D → R D := defD 2 1 b_Titled_is_word
def b_Declaring_init_1 : DS := sSeq (sIf (tNotD (tTru (eCall d_Titled_is_word (aCons (eVar 4) (aNil))))) (sRaise "InvalidWord" ["word"] (aCons (eVar 4) (aNil))) (sNext)) (sSeq (sIf (tVal (e2 oIn (eVar 4) (eLook 3))) (sRaise "DuplicateName" ["name"] (aCons (eVar 4) (aNil))) (sNext)) (sApp 3 (eVar 4)))
def b_Declaring_init : DS := sSeq (sOwn 3 (eLst (aNil))) (sSeq (sFor (iOf (e2 oAdd (e1 oList (eVar 1)) (e1 oList (eVar 2)))) (gVar 4) [4] b_Declaring_init_1) (sSeq (sFld 0 "names" (e1 oTuple (eVar 1))) (sFld 0 "statics" (e1 oTuple (eVar 2)))))
def d_Declaring_init : D → List D → R (D × D) := initP 5 3 b_Declaring_init
def b_Titled_init : DS := sSeq (sIf (tNotD (tTru (eCall d_Titled_is_word (aCons (eVar 1) (aNil))))) (sRaise "InvalidWord" ["word"] (aCons (eVar 1) (aNil))) (sNext)) (sFld 0 "title" (eVar 1))
def d_Titled_init : D → List D → R (D × D) := initP 2 2 b_Titled_init
theorem e_Titled_init (s x0 : D) : d_Titled_init s [x0] = finI (b_Titled_init [some (.slf s), some (.val x0)]) := id rfl
theorem e_Declaring_init (s x0 x1 : D) : d_Declaring_init s [x0, x1] = finI (b_Declaring_init [some (.slf s), some (.val x0), some (.val x1), none, none]) := id rfl
def b_Kind_init : DS := sSeq (sInitC 0 d_Titled_init (aCons (e1 (oFld "title") (eVar 1)) (aNil))) (sSeq (sInitC 0 d_Declaring_init (aCons (e1 (oFld "names") (eVar 1)) (aCons (e1 (oFld "statics") (eVar 1)) (aNil)))) (sSeq (sFld 0 "bases" (e1 oTuple (e1 (oFld "bases") (eVar 1)))) (sSeq (sFld 0 "above" (eVar 2)) (sFld 0 "shared_bases" (eVar 3)))))
def d_Kind_init : D → List D → R (D × D) := initP 4 4 b_Kind_init
theorem e_Kind_init (s x0 x1 x2 : D) : d_Kind_init s [x0, x1, x2] = finI (b_Kind_init [some (.slf s), some (.val x0), some (.val x1), some (.val x2)]) := id rfl
def b_Library_admit_1 : DS := sPutD 2 (eVar 6) (eC (.bl true))
def b_Library_admit_2 : DS := sPutD 3 (eVar 6) (eC (.bl true))
def b_Library_admit_3 : DS := sSeq (sIf (tVal (e2 oNotIn (e1 (oFld "title") (eVar 4)) (eSelf 0 "places"))) (sRaise "UnknownClass" ["title"] (aCons (e1 (oFld "title") (eVar 4)) (aNil))) (sNext)) (sSeq (sSet 5 (e2 oIx (eSelf 0 "kinds") (e2 oIx (eSelf 0 "places") (e1 (oFld "title") (eVar 4))))) (sSeq (sPutD 2 (e1 (oFld "title") (eVar 4)) (eC (.bl true))) (sSeq (sFor (iOf (e1 (oFld "above") (eVar 5))) (gVar 6) [6] b_Library_admit_1) (sSeq (sFor (iOf (e1 (oFld "shared_bases") (eVar 5))) (gVar 6) [6] b_Library_admit_2) (sIf (tTru (e1 (oFld "is_shared") (eVar 4))) (sPutD 3 (e1 (oFld "title") (eVar 4)) (eC (.bl true))) (sNext))))))
def b_Library_admit_4 : DS := sIf (tVal (e2 oNotIn (eVar 10) (eSelf 0 "names"))) (sFld 0 "names" (e2 oAdd (eSelf 0 "names") (eTup (aCons (eVar 10) (aNil))))) (sNext)
def b_Library_admit : DS := sSeq (sIf (tVal (e2 oIn (e1 (oFld "title") (eVar 1)) (eSelf 0 "places"))) (sRaise "DuplicateClass" ["title"] (aCons (e1 (oFld "title") (eVar 1)) (aNil))) (sNext)) (sSeq (sOwn 2 (eC (.dct [] []))) (sSeq (sOwn 3 (eC (.dct [] []))) (sSeq (sFor (iOf (e1 (oFld "bases") (eVar 1))) (gVar 4) [4, 5, 6] b_Library_admit_3) (sSeq (sSet 7 (eComp (iLst (eSelf 0 "kinds")) [5] (gVar 5) (tYesD) (e1 (oFld "title") (eVar 5)))) (sSeq (sGPut 0 "places" (e1 (oFld "title") (eVar 1)) (e1 oLen (eSelf 0 "kinds"))) (sSeq (sSet 8 (e1 oTuple (eComp (iOf (eVar 7)) [6] (gVar 6) (tVal (e2 oIn (eVar 6) (eLook 2))) (eVar 6)))) (sSeq (sSet 9 (e1 oTuple (eComp (iOf (eVar 7)) [6] (gVar 6) (tVal (e2 oIn (eVar 6) (eLook 3))) (eVar 6)))) (sSeq (sGApp 0 "kinds" (eCall (mkD "Kind" d_Kind_init) (aCons (eVar 1) (aCons (eVar 8) (aCons (eVar 9) (aNil)))))) (sFor (iOf (e2 oAdd (e1 (oFld "names") (eVar 1)) (e1 (oFld "statics") (eVar 1)))) (gVar 10) [10] b_Library_admit_4)))))))))
def d_Library_admit : GD := initG 11 2 b_Library_admit
theorem e_Library_admit (s g0 g1 x0 : D) (h : okG s = true) : d_Library_admit s g0 g1 [x0] = endG (b_Library_admit ([some (.slf s), some (.val x0), none, none, none, none, none, none, none, none, none, none] ++ [some (.gho g0), some (.gho g1)])) := by unfold d_Library_admit initG; exact if_pos ⟨rfl, Nat.le_of_ble_eq_true rfl, h⟩
def b_Library_init_1 : DS := sGCallC "Library" 0 d_Library_admit (aCons (eVar 2) (aNil))
def b_Library_init : DS := sSeq (sGNew 0 "kinds" 12 (eLst (aNil))) (sSeq (sGNew 0 "places" 13 (eC (.dct [] []))) (sSeq (sFld 0 "names" (eTup (aNil))) (sFor (iOf (eVar 1)) (gVar 2) [2] b_Library_init_1)))
def d_Library_init : D → List D → R (D × D) := initQ 3 2 b_Library_init
theorem e_Library_init (s x0 : D) : d_Library_init s [x0] = outQ (endG (b_Library_init [some (.slf s), some (.val x0), none, none, none, none, none, none, none, none, none, none, none, none])) := by unfold d_Library_init initQ; exact if_pos ⟨rfl, Nat.le_of_ble_eq_true rfl⟩
def b_Draft_init_1 : DS := sSeq (sIf (tVal (e2 oIn (e1 (oFld "title") (eVar 6)) (eLook 5))) (sRaise "DuplicateBase" ["title"] (aCons (e1 (oFld "title") (eVar 6)) (aNil))) (sNext)) (sApp 5 (e1 (oFld "title") (eVar 6)))
def b_Draft_init : DS := sSeq (sInitC 0 d_Titled_init (aCons (eVar 1) (aNil))) (sSeq (sInitC 0 d_Declaring_init (aCons (eVar 2) (aCons (eVar 3) (aNil)))) (sSeq (sOwn 5 (eLst (aNil))) (sSeq (sFor (iOf (eVar 4)) (gVar 6) [6] b_Draft_init_1) (sFld 0 "bases" (e1 oTuple (eVar 4))))))
def d_Draft_init : D → List D → R (D × D) := initP 7 5 b_Draft_init
theorem e_Draft_init (s x0 x1 x2 x3 : D) : d_Draft_init s [x0, x1, x2, x3] = finI (b_Draft_init [some (.slf s), some (.val x0), some (.val x1), some (.val x2), some (.val x3), none, none]) := id rfl
def b_Base_init : DS := sSeq (sInitC 0 d_Titled_init (aCons (eVar 1) (aNil))) (sFld 0 "is_shared" (eVar 2))
def d_Base_init : D → List D → R (D × D) := initP 3 3 b_Base_init
theorem e_Base_init (s x0 x1 : D) : d_Base_init s [x0, x1] = finI (b_Base_init [some (.slf s), some (.val x0), some (.val x1)]) := id rfl
def b_law_shared_1 : DS := sIf (tVal (e2 oNotIn (eVar 5) (eLook 3))) (sApp 3 (eVar 5)) (sNext)
def b_law_shared_2 : DS := sSeq (sFor (iOf (e2 oIx (eLook 1) (e2 oIx (eVar 4) (eC (.int 0))))) (gVar 5) [5] b_law_shared_1) (sIf (tAndD (tVal (e2 oEq (e2 oIx (eVar 4) (eC (.int 1))) (eC (.int 1)))) (tVal (e2 oNotIn (e2 oIx (eVar 4) (eC (.int 0))) (eLook 3)))) (sApp 3 (e2 oIx (eVar 4) (eC (.int 0)))) (sNext))
def b_law_shared_3 : DS := sSeq (sOwn 3 (eLst (aNil))) (sSeq (sFor (iOf (e2 oIx (e2 oIx (eVar 0) (eVar 2)) (eC (.int 0)))) (gVar 4) [4, 5] b_law_shared_2) (sFrz [3] (sApp 1 (eVar 3))))
def b_law_shared : DS := sSeq (sOwn 1 (eLst (aNil))) (sSeq (sFor (iRange (e1 oLen (eVar 0))) (gVar 2) [2, 3, 4, 5] b_law_shared_3) (sFrz [1] (sRet (eVar 1))))
def d_law_shared : List D → R D := defD 6 1 b_law_shared
theorem e_law_shared (x0 : D) : d_law_shared [x0] = finD (b_law_shared [some (.val x0), none, none, none, none, none]) := id rfl
def b_law_dense_1 : DS := sSeq (sIf (tAndD (tVal (e2 oEq (eVar 4) (eC (.int 0)))) (tVal (e2 oGe (e2 oIx (eVar 8) (eVar 10)) (eC (.int 2))))) (sApp 9 (eLst (aCons (eVar 10) (aCons (e2 oSub (e2 oIx (eVar 8) (eVar 10)) (eC (.int 2))) (aNil))))) (sNext)) (sSeq (sIf (tAndD (tVal (e2 oEq (eVar 4) (eC (.int 1)))) (tVal (e2 oGe (e2 oIx (eVar 8) (eVar 10)) (eC (.int 1))))) (sApp 9 (eLst (aCons (eVar 10) (aCons (e1 oInt (e2 oEq (e2 oIx (eVar 8) (eVar 10)) (eC (.int 1)))) (aNil))))) (sNext)) (sIf (tVal (e2 oEq (eVar 4) (eC (.int 2)))) (sApp 9 (eLst (aCons (eVar 10) (aCons (eC (.int 0)) (aNil))))) (sNext)))
def b_law_dense_2 : DS := sSeq (sSet 13 (e2 oIx (eVar 8) (e2 oAdd (eVar 6) (eVar 12)))) (sApp 11 (e2 oAdd (e1 oInt (e2 oEq (eVar 13) (e2 oSub (eVar 7) (eC (.int 2))))) (e2 oMul (eC (.int 2)) (e1 oInt (e2 oEq (eVar 13) (e2 oSub (eVar 7) (eC (.int 1))))))))
def b_law_dense_3 : DS := sSeq (sSet 7 (eC (.int 5))) (sSeq (sIf (tAndD (tVal (e2 oGt (eVar 4) (eC (.int 0)))) (tVal (e2 oGt (eVar 6) (eC (.int 1))))) (sSet 7 (eC (.int 20))) (sNext)) (sSeq (sSet 8 (eCall d_law_row (aCons (eCall d_law_cell (aCons (eVar 0) (aCons (e2 oAdd (eVar 1) (eVar 6)) (aNil)))) (aCons (e2 oAdd (eVar 1) (eVar 6)) (aCons (e2 oAdd (e2 oMul (eLst (aCons (e2 oIx (eLst (aCons (eC (.int 4)) (aCons (eC (.int 16)) (aCons (eC (.int 1)) (aNil))))) (eVar 4)) (aNil))) (eVar 6)) (e2 oMul (eLst (aCons (eVar 7) (aNil))) (eVar 3))) (aNil)))))) (sSeq (sOwn 9 (eLst (aNil))) (sSeq (sFor (iRange (eVar 6)) (gVar 10) [10] b_law_dense_1) (sSeq (sOwn 11 (eLst (aNil))) (sSeq (sFor (iRange (eVar 3)) (gVar 12) [12, 13] b_law_dense_2) (sFrz [9, 11] (sApp 5 (eLst (aCons (eVar 9) (aCons (eVar 11) (aNil))))))))))))
def b_law_dense : DS := sSeq (sOwn 5 (eLst (aNil))) (sSeq (sFor (iRange (eVar 2)) (gVar 6) [6, 7, 8, 9, 10, 11, 12, 13] b_law_dense_3) (sFrz [5] (sRet (eVar 5))))
def d_law_dense : List D → R D := defD 14 5 b_law_dense
theorem e_law_dense (x0 x1 x2 x3 x4 : D) : d_law_dense [x0, x1, x2, x3, x4] = finD (b_law_dense [some (.val x0), some (.val x1), some (.val x2), some (.val x3), some (.val x4), none, none, none, none, none, none, none, none, none]) := id rfl
def b_law_draftsD_1 : DS := sSeq (sSet 5 (eComp (iRange (e1 oLen (eVar 2))) [8] (gVar 8) (tVal (e2 oEq (e2 oIx (e2 oIx (e2 oIx (eVar 0) (eVar 4)) (eC (.int 1))) (eVar 8)) (eC (.int 1)))) (e2 oIx (eVar 2) (eVar 8)))) (sSeq (sSet 6 (eComp (iRange (e1 oLen (eVar 2))) [8] (gVar 8) (tVal (e2 oEq (e2 oIx (e2 oIx (e2 oIx (eVar 0) (eVar 4)) (eC (.int 1))) (eVar 8)) (eC (.int 2)))) (e2 oIx (eVar 2) (eVar 8)))) (sSeq (sSet 7 (eComp (iOf (e2 oIx (e2 oIx (eVar 0) (eVar 4)) (eC (.int 0)))) [9] (gVar 9) (tYesD) (eCall (mkD "Base" d_Base_init) (aCons (e2 oIx (eVar 1) (e2 oIx (eVar 9) (eC (.int 0)))) (aCons (e2 oEq (e2 oIx (eVar 9) (eC (.int 1))) (eC (.int 1))) (aNil)))))) (sApp 3 (eMkK 1 3 "Draft" gDr3 d_Draft_init (aCons (e2 oIx (eVar 1) (eVar 4)) (aNil)) (aCons (eVar 5) (aCons (eVar 6) (aCons (eVar 7) (aNil))))))))
def b_law_draftsD : DS := sSeq (sOwn 3 (eLst (aNil))) (sSeq (sFor (iRange (e1 oLen (eVar 0))) (gVar 4) [4, 5, 6, 7] b_law_draftsD_1) (sFrz [3] (sRet (eVar 3))))
def d_law_draftsD : List D → R D := defD 10 3 b_law_draftsD
theorem e_law_draftsD (x0 x1 x2 : D) : d_law_draftsD [x0, x1, x2] = finD (b_law_draftsD [some (.val x0), some (.val x1), some (.val x2), none, none, none, none, none, none, none]) := id rfl
def b_Library_getitem : DS := sSeq (sIf (tVal (e2 oNotIn (eVar 1) (e1 (oFld "places") (eVar 0)))) (sRaise "UnknownClass" ["title"] (aCons (eVar 1) (aNil))) (sNext)) (sRet (e2 oIx (e1 (oFld "kinds") (eVar 0)) (e2 oIx (e1 (oFld "places") (eVar 0)) (eVar 1))))
def d_Library_getitem : List D → R D := defD 2 2 b_Library_getitem
theorem e_Library_getitem (x0 x1 : D) : d_Library_getitem [x0, x1] = finD (b_Library_getitem [some (.val x0), some (.val x1)]) := id rfl
def b_Library_contains : DS := sRet (e2 oIn (eVar 1) (e1 (oFld "places") (eVar 0)))
def d_Library_contains : List D → R D := defD 2 2 b_Library_contains
theorem e_Library_contains (x0 x1 : D) : d_Library_contains [x0, x1] = finD (b_Library_contains [some (.val x0), some (.val x1)]) := id rfl
def b_law_place_1 : DS := sIf (tVal (e2 oEq (e2 oIx (eVar 0) (eVar 2)) (eVar 1))) (sRet (eVar 2)) (sNext)
def b_law_place : DS := sSeq (sFor (iRange (e1 oLen (eVar 0))) (gVar 2) [2] b_law_place_1) (sRet (e1 oNeg (eC (.int 1))))
def d_law_place : List D → R D := defD 3 2 b_law_place
theorem e_law_place (x0 x1 : D) : d_law_place [x0, x1] = finD (b_law_place [some (.val x0), some (.val x1), none]) := id rfl
def b_law_read_way_1 : DS := sIf (tVal (e2 oNotIn (eLst (aCons (e2 oIx (eVar 5) (e2 oAdd (eVar 6) (eC (.int 1)))) (aCons (eC (.int 0)) (aNil)))) (e2 oIx (e2 oIx (eVar 0) (e2 oIx (eVar 5) (eVar 6))) (eC (.int 0))))) (sRet (eLst (aNil))) (sNext)
def b_law_read_way : DS := sSeq (sIf (tOrD (tNotD (tTru (e1 (oIsi "tuple") (eVar 4)))) (tVal (e2 oEq (e1 oLen (eVar 4)) (eC (.int 0))))) (sRet (eLst (aNil))) (sNext)) (sSeq (sIf (tNotD (tTru (e1 oAll (eComp (iOf (eVar 4)) [7] (gVar 7) (tYesD) (e1 (oIsi "str") (eVar 7)))))) (sRet (eLst (aNil))) (sNext)) (sSeq (sSet 5 (eComp (iOf (eVar 4)) [7] (gVar 7) (tYesD) (eCall d_law_place (aCons (eVar 2) (aCons (eVar 7) (aNil)))))) (sSeq (sIf (tOrD (tVal (e2 oIn (e1 oNeg (eC (.int 1))) (eVar 5))) (tAndD (tVal (e2 oNe (e2 oIx (eVar 5) (eC (.int 0))) (eVar 3))) (tVal (e2 oNotIn (e2 oIx (eVar 5) (eC (.int 0))) (e2 oIx (eVar 1) (eVar 3)))))) (sRet (eLst (aNil))) (sNext)) (sSeq (sFor (iRange (e2 oSub (e1 oLen (eVar 5)) (eC (.int 1)))) (gVar 6) [6] b_law_read_way_1) (sRet (eVar 5))))))
def d_law_read_way : List D → R D := defD 8 5 b_law_read_way
theorem e_law_read_way (x0 x1 x2 x3 x4 : D) : d_law_read_way [x0, x1, x2, x3, x4] = finD (b_law_read_way [some (.val x0), some (.val x1), some (.val x2), some (.val x3), some (.val x4), none, none, none]) := id rfl
def b_law_counts_1 : DS := sIf (tVal (e2 oEq (e2 oIx (eVar 5) (eC (.int 1))) (eC (.int 0)))) (sSet 4 (e2 oAdd (eVar 4) (e2 oIx (eLook 2) (e2 oIx (eVar 5) (eC (.int 0)))))) (sNext)
def b_law_counts_2 : DS := sSeq (sSet 4 (e1 oInt (e2 oEq (eVar 3) (eVar 1)))) (sSeq (sFor (iOf (e2 oIx (e2 oIx (eVar 0) (eVar 3)) (eC (.int 0)))) (gVar 5) [5] b_law_counts_1) (sApp 2 (eVar 4)))
def b_law_counts : DS := sSeq (sOwn 2 (eLst (aNil))) (sSeq (sFor (iRange (e1 oLen (eVar 0))) (gVar 3) [3, 4, 5] b_law_counts_2) (sFrz [2] (sRet (eVar 2))))
def d_law_counts : List D → R D := defD 6 2 b_law_counts
theorem e_law_counts (x0 x1 : D) : d_law_counts [x0, x1] = finD (b_law_counts [some (.val x0), some (.val x1), none, none, none, none]) := id rfl
end Tw

namespace Tw
open PySem
def b_few_ways_1 : DS := sSeq (sSet 4 (eLst (aCons (eTup (aCons (eVar 1) (aNil))) (aNil)))) (sSeq (sIf (tVal (e2 oNe (e1 (oFld "title") (eVar 3)) (eVar 1))) (sSeq (sSet 5 (eComp (iOf (e1 (oFld "bases") (eVar 3))) [6] (gVar 6) (tNotD (tTru (e1 (oFld "is_shared") (eVar 6)))) (e1 (oFld "title") (eVar 6)))) (sSet 4 (eComp2 (iOf (eVar 5)) [6, 7] (gVar 6) (iOf (e2 oIx (eLook 2) (eVar 6))) [7] (gVar 7) (tYesD) (e2 oAdd (eTup (aCons (e1 (oFld "title") (eVar 3)) (aNil))) (eVar 7))))) (sNext)) (sPutD 2 (e1 (oFld "title") (eVar 3)) (eSl (eVar 4) (xNone) (xSome (eC (.int 2))))))
def b_few_ways : DS := sSeq (sOwn 2 (eC (.dct [] []))) (sSeq (sFor (iOwn "Library" "kinds" (eVar 0)) (gVar 3) [3, 4, 5] b_few_ways_1) (sFrz [2] (sRet (eVar 2))))
def d_few_ways : List D → R D := defD 8 2 b_few_ways
theorem e_few_ways (x0 x1 : D) : d_few_ways [x0, x1] = finD (b_few_ways [some (.val x0), some (.val x1), none, none, none, none, none, none]) := id rfl
def b_decided : DS := sSeq (sIf (tVal (e2 oGt (e1 oLen (eVar 0)) (eC (.int 1)))) (sRaise "TwoWays" ["one", "other"] (aCons (e2 oIx (eVar 0) (eC (.int 0))) (aCons (e2 oIx (eVar 0) (eC (.int 1))) (aNil)))) (sNext)) (sSeq (sIf (tVal (e2 oEq (e1 oLen (eVar 0)) (eC (.int 0)))) (sRaise "NoCopy" ["title"] (aCons (eVar 1) (aNil))) (sNext)) (sRet (e2 oIx (eVar 0) (eC (.int 0)))))
def d_decided : List D → R D := defD 2 2 b_decided
theorem e_decided (x0 x1 : D) : d_decided [x0, x1] = finD (b_decided [some (.val x0), some (.val x1)]) := id rfl
def b_convert_1 : DS := sSet 5 (e2 oAdd (eVar 5) (e2 oIx (eVar 4) (eVar 6)))
def b_convert : DS := sSeq (sIf (tVal (eRMn "Library" d_Library_contains (eVar 2) (eVar 0))) (sRaise "UnknownClass" ["title"] (aCons (eVar 2) (aNil))) (sNext)) (sSeq (sSet 3 (eIxO "Library" d_Library_getitem (eVar 0) (e2 oIx (eVar 1) (e1 oNeg (eC (.int 1)))))) (sSeq (sSet 4 (eCall d_few_ways (aCons (eVar 0) (aCons (eVar 2) (aNil))))) (sSeq (sSet 5 (eComp (iOf (e2 oIx (eVar 4) (e1 (oFld "title") (eVar 3)))) [8] (gVar 8) (tYesD) (e2 oAdd (e1 oTuple (eSl (eVar 1) (xNone) (xSome (e1 oNeg (eC (.int 1)))))) (eVar 8)))) (sSeq (sFor (iOf (e1 (oFld "shared_bases") (eVar 3))) (gVar 6) [6] b_convert_1) (sTryR ["NoCopy", "TwoWays", "UnknownClass"] (sRet (eCall d_decided (aCons (eVar 5) (aCons (eVar 2) (aNil))))) "TwoWays" 7 (fun e => sRaise "Ambiguous" ["name", "one", "other"] (aCons (eVar 2) (aCons (eXf e "one") (aCons (eXf e "other") (aNil))))))))))
def d_convert : List D → R D := defD 9 3 b_convert
theorem e_convert (x0 x1 x2 : D) : d_convert [x0, x1, x2] = finD (b_convert [some (.val x0), some (.val x1), some (.val x2), none, none, none, none, none, none]) := id rfl
end Tw

namespace Tw
open PySem
def b_law_walk_1 : DS := sSeq (sSet 4 (e2 oIx (e2 oIx (eVar 0) (e2 oIx (eVar 1) (e1 oNeg (eC (.int 1))))) (eC (.int 0)))) (sSeq (sIf (tVal (e2 oEq (eVar 4) (eLst (aNil)))) (sBrk) (sNext)) (sSeq (sSet 5 (e2 oIx (eVar 4) (e2 oMod (eVar 3) (e1 oLen (eVar 4))))) (sIf (tVal (e2 oEq (e2 oIx (eVar 5) (eC (.int 1))) (eC (.int 1)))) (sSet 1 (eTup (aCons (e2 oIx (eVar 5) (eC (.int 0))) (aNil)))) (sSet 1 (e2 oAdd (eVar 1) (eTup (aCons (e2 oIx (eVar 5) (eC (.int 0))) (aNil))))))))
def b_law_walk : DS := sSeq (sFor (iOf (eVar 2)) (gVar 3) [3, 4, 5] b_law_walk_1) (sRet (eVar 1))
def d_law_walk : List D → R D := defD 6 3 b_law_walk
theorem e_law_walk (x0 x1 x2 : D) : d_law_walk [x0, x1, x2] = finD (b_law_walk [some (.val x0), some (.val x1), some (.val x2), none, none, none]) := id rfl
def b_law_asked : DS := sTry ["Ambiguous", "DuplicateBase", "DuplicateClass", "DuplicateName", "InvalidWord", "NoCopy", "TwoWays", "UnknownClass"] (sRet (eLst (aCons (eCall d_convert (aCons (eVar 0) (aCons (eVar 1) (aCons (eVar 2) (aNil))))) (aNil)))) (("NoCopy", 3, fun e => sRet (eLst (aCons (eC (.str "none")) (aCons (eXf e "title") (aNil))))) :: ("Ambiguous", 4, fun e => sRet (eLst (aCons (eXf e "one") (aCons (eXf e "other") (aCons (eXf e "name") (aNil)))))) :: [])
def d_law_asked : List D → R D := defD 5 3 b_law_asked
theorem e_law_asked (x0 x1 x2 : D) : d_law_asked [x0, x1, x2] = finD (b_law_asked [some (.val x0), some (.val x1), some (.val x2), none, none]) := id rfl
def b_law_1 : DS := sSeq (sSet 15 (eCall d_law_read_way (aCons (eVar 4) (aCons (eVar 7) (aCons (eVar 5) (aCons (eVar 8) (aCons (eVar 14) (aNil)))))))) (sSeq (sIf (tOrD (tVal (e2 oEq (eVar 15) (eLst (aNil)))) (tVal (e2 oNe (e2 oIx (eVar 15) (e1 oNeg (eC (.int 1)))) (eVar 10)))) (sRet (eC (.bl false))) (sNext)) (sIf (tAndD (tVal (e2 oNotIn (e2 oIx (eVar 15) (eC (.int 0))) (e2 oIx (eVar 7) (e2 oIx (eVar 9) (e1 oNeg (eC (.int 1))))))) (tVal (e2 oNe (e1 oTuple (eSl (eVar 15) (xNone) (xSome (e1 oLen (eVar 9))))) (eVar 9)))) (sRet (eC (.bl false))) (sNext)))
def b_law : DS := sSeq (sSet 1 (eCall d_law_row (aCons (eCall d_law_cell (aCons (eVar 0) (aCons (eC (.int 0)) (aNil)))) (aCons (eC (.int 1)) (aCons (eLst (aCons (eC (.int 4)) (aCons (eC (.int 61)) (aCons (eC (.int 1664)) (aCons (eC (.int 3)) (aCons (eC (.int 4)) (aCons (eC (.int 62)) (aCons (eC (.int 62)) (aCons (eC (.int 62)) (aCons (eC (.int 62)) (aCons (eC (.int 3)) (aNil)))))))))))) (aNil)))))) (sSeq (sSet 2 (e2 oIx (eLst (aCons (eC (.int 0)) (aCons (eC (.int 1)) (aCons (eC (.int 2)) (aCons (eC (.int 0)) (aNil)))))) (e2 oIx (eVar 1) (eC (.int 0))))) (sSeq (sSet 3 (e2 oAdd (eC (.int 2)) (e2 oMod (e2 oIx (eVar 1) (eC (.int 1))) (e2 oIx (eLst (aCons (eC (.int 13)) (aCons (eC (.int 17)) (aCons (eC (.int 61)) (aNil))))) (eVar 2))))) (sSeq (sSet 4 (eCall d_law_dense (aCons (eVar 0) (aCons (eC (.int 1)) (aCons (eVar 3) (aCons (eC (.int 0)) (aCons (eVar 2) (aNil)))))))) (sSeq (sSet 5 (eComp (iRange (eVar 3)) [16] (gVar 16) (tYesD) (eCall d_law_word (aCons (e2 oIx (eVar 1) (eC (.int 2))) (aCons (eVar 16) (aNil)))))) (sSeq (sSet 6 (eCall (mkD "Library" d_Library_init) (aCons (eCall d_law_draftsD (aCons (eVar 4) (aCons (eVar 5) (aCons (eLst (aNil)) (aNil))))) (aNil)))) (sSeq (sSet 7 (eCall d_law_shared (aCons (eVar 4) (aNil)))) (sSeq (sSet 8 (e2 oMax (eC (.int 0)) (e2 oSub (e2 oSub (eVar 3) (eC (.int 1))) (e2 oIx (eVar 1) (eC (.int 3)))))) (sSeq (sSet 9 (eCall d_law_walk (aCons (eVar 4) (aCons (eTup (aCons (eVar 8) (aNil))) (aCons (eSl (eVar 1) (xSome (eC (.int 5))) (xSome (e2 oAdd (eC (.int 5)) (e2 oIx (eVar 1) (eC (.int 4)))))) (aNil)))))) (sSeq (sSet 10 (e2 oMod (e2 oIx (eVar 1) (eC (.int 8))) (eVar 3))) (sSeq (sIf (tVal (e2 oEq (e2 oIx (eVar 1) (eC (.int 9))) (eC (.int 0)))) (sSet 10 (e2 oMod (e2 oIx (eVar 1) (eC (.int 8))) (eC (.int 2)))) (sNext)) (sSeq (sSet 11 (eCall d_law_counts (aCons (eVar 4) (aCons (eVar 10) (aNil))))) (sSeq (sSet 12 (e2 oAdd (e2 oIx (eVar 11) (e2 oIx (eVar 9) (e1 oNeg (eC (.int 1))))) (e1 oSum (eComp (iOf (e2 oIx (eVar 7) (e2 oIx (eVar 9) (e1 oNeg (eC (.int 1)))))) [17] (gVar 17) (tYesD) (e2 oIx (eVar 11) (eVar 17)))))) (sSeq (sSet 13 (eCall d_law_asked (aCons (eVar 6) (aCons (e1 oTuple (eComp (iOf (eVar 9)) [16] (gVar 16) (tYesD) (e2 oIx (eVar 5) (eVar 16)))) (aCons (e2 oIx (eVar 5) (eVar 10)) (aNil)))))) (sSeq (sIf (tVal (e2 oEq (eVar 12) (eC (.int 0)))) (sRet (e2 oEq (eVar 13) (eLst (aCons (eC (.str "none")) (aCons (e2 oIx (eVar 5) (eVar 10)) (aNil)))))) (sNext)) (sSeq (sIf (tAndD (tVal (e2 oGt (eVar 12) (eC (.int 1)))) (tOrD (tVal (e2 oNe (e1 oLen (eVar 13)) (eC (.int 3)))) (tOrD (tVal (e2 oNe (e2 oIx (eVar 13) (eC (.int 2))) (e2 oIx (eVar 5) (eVar 10)))) (tVal (e2 oEq (e2 oIx (eVar 13) (eC (.int 0))) (e2 oIx (eVar 13) (eC (.int 1)))))))) (sRet (eC (.bl false))) (sNext)) (sSeq (sIf (tAndD (tVal (e2 oEq (eVar 12) (eC (.int 1)))) (tVal (e2 oNe (e1 oLen (eVar 13)) (eC (.int 1))))) (sRet (eC (.bl false))) (sNext)) (sSeq (sFor (iOf (eSl (eVar 13) (xNone) (xSome (eC (.int 2))))) (gVar 14) [14, 15] b_law_1) (sRet (eC (.bl true))))))))))))))))))))
def d_law : List D → R D := defD 18 1 b_law
theorem e_law (x0 : D) : d_law [x0] = finD (b_law [some (.val x0), none, none, none, none, none, none, none, none, none, none, none, none, none, none, none, none, none]) := id rfl
end Tw

set_option maxHeartbeats 2000000
namespace Tw
open PySem PySem.Spec L2
open PyProof.Rows hiding St
structure Fx (K : PySem.W.Frag) (mg : Str → Option Value) : Prop where
  n_abs : mg "abs" = none
  n_all : mg "all" = none
  n_int : mg "int" = none
  n_isinstance : mg "isinstance" = none
  n_iter : mg "iter" = none
  n_len : mg "len" = none
  n_list : mg "list" = none
  n_max : mg "max" = none
  n_range : mg "range" = none
  n_str : mg "str" = none
  n_sum : mg "sum" = none
  n_super : mg "super" = none
  n_tuple : mg "tuple" = none
  c_DIGITS : ∃ t, mg "DIGITS" = some (.str "0123456789" t)
  c_LETTERS : ∃ t, mg "LETTERS" = some (.str "ABCDEFGHIJKLMNOPQRSTUVWXYZabcdefghijklmnopqrstuvwxyz" t)
  c_LONGEST : ∃ t, mg "LONGEST" = some (.int 8 t)
  g_Ambiguous : mg "Ambiguous" = some (.ref (gAd "Ambiguous" K))
  g_Base : mg "Base" = some (.ref (gAd "Base" K))
  g_Declaring : mg "Declaring" = some (.ref (gAd "Declaring" K))
  g_Draft : mg "Draft" = some (.ref (gAd "Draft" K))
  g_DuplicateBase : mg "DuplicateBase" = some (.ref (gAd "DuplicateBase" K))
  g_DuplicateClass : mg "DuplicateClass" = some (.ref (gAd "DuplicateClass" K))
  g_DuplicateName : mg "DuplicateName" = some (.ref (gAd "DuplicateName" K))
  g_InvalidWord : mg "InvalidWord" = some (.ref (gAd "InvalidWord" K))
  g_Kind : mg "Kind" = some (.ref (gAd "Kind" K))
  g_Library : mg "Library" = some (.ref (gAd "Library" K))
  g_NoCopy : mg "NoCopy" = some (.ref (gAd "NoCopy" K))
  g_Titled : mg "Titled" = some (.ref (gAd "Titled" K))
  g_TwoWays : mg "TwoWays" = some (.ref (gAd "TwoWays" K))
  g_UnknownClass : mg "UnknownClass" = some (.ref (gAd "UnknownClass" K))
  g__law_asked : mg "_law_asked" = some (.ref (gAd "_law_asked" K))
  g__law_cell : mg "_law_cell" = some (.ref (gAd "_law_cell" K))
  g__law_counts : mg "_law_counts" = some (.ref (gAd "_law_counts" K))
  g__law_dense : mg "_law_dense" = some (.ref (gAd "_law_dense" K))
  g__law_drafts : mg "_law_drafts" = some (.ref (gAd "_law_drafts" K))
  g__law_place : mg "_law_place" = some (.ref (gAd "_law_place" K))
  g__law_read_way : mg "_law_read_way" = some (.ref (gAd "_law_read_way" K))
  g__law_row : mg "_law_row" = some (.ref (gAd "_law_row" K))
  g__law_shared : mg "_law_shared" = some (.ref (gAd "_law_shared" K))
  g__law_walk : mg "_law_walk" = some (.ref (gAd "_law_walk" K))
  g__law_word : mg "_law_word" = some (.ref (gAd "_law_word" K))
  g_convert : mg "convert" = some (.ref (gAd "convert" K))
  g_decided : mg "decided" = some (.ref (gAd "decided" K))
  g_few_ways : mg "few_ways" = some (.ref (gAd "few_ways" K))
  g_law : mg "law" = some (.ref (gAd "law" K))
  cl_Base : Cls K (cmOf K "Base")
  na_Base_title : NoAttr K (cmOf K "Base") "title"
  na_Base_is_shared : NoAttr K (cmOf K "Base") "is_shared"
  cl_Draft : Cls K (cmOf K "Draft")
  na_Draft_title : NoAttr K (cmOf K "Draft") "title"
  na_Draft_names : NoAttr K (cmOf K "Draft") "names"
  na_Draft_statics : NoAttr K (cmOf K "Draft") "statics"
  na_Draft_bases : NoAttr K (cmOf K "Draft") "bases"
  cl_Kind : Cls K (cmOf K "Kind")
  na_Kind_title : NoAttr K (cmOf K "Kind") "title"
  na_Kind_names : NoAttr K (cmOf K "Kind") "names"
  na_Kind_statics : NoAttr K (cmOf K "Kind") "statics"
  na_Kind_bases : NoAttr K (cmOf K "Kind") "bases"
  na_Kind_above : NoAttr K (cmOf K "Kind") "above"
  na_Kind_shared_bases : NoAttr K (cmOf K "Kind") "shared_bases"
  cl_Library : Cls K (cmOf K "Library")
  na_Library_kinds : NoAttr K (cmOf K "Library") "kinds"
  na_Library_places : NoAttr K (cmOf K "Library") "places"
  na_Library_names : NoAttr K (cmOf K "Library") "names"
  mk_Base : Mk K (cmOf K "Base") (mAd "Base" "__init__" K)
  mk_Draft : Mk K (cmOf K "Draft") (mAd "Draft" "__init__" K)
  mk_Kind : Mk K (cmOf K "Kind") (mAd "Kind" "__init__" K)
  mk_Library : Mk K (cmOf K "Library") (mAd "Library" "__init__" K)
  sm_Titled_is_word : CFn K (cmOf K "Titled") "is_word" (sAd "Titled" "is_word" K)
  pm_Declaring_init : CFn K (cmOf K "Declaring") "__init__" (mAd "Declaring" "__init__" K)
  pm_Titled_init : CFn K (cmOf K "Titled") "__init__" (mAd "Titled" "__init__" K)
  me_Library_contains : Meth K (cmOf K "Library") "__contains__" (mAd "Library" "__contains__" K)
  me_Library_getitem : Meth K (cmOf K "Library") "__getitem__" (mAd "Library" "__getitem__" K)
  me_Library_iter : Meth K (cmOf K "Library") "__iter__" (mAd "Library" "__iter__" K)
  me_Library_admit : Meth K (cmOf K "Library") "admit" (mAd "Library" "admit" K)
  xcs : XcsOk K ["Ambiguous", "DuplicateBase", "DuplicateClass", "DuplicateName", "InvalidWord", "NoCopy", "TwoWays", "UnknownClass"] ["Ambiguous", "NoCopy", "TwoWays"] ["name", "one", "other", "title"]
  d_law_row : ∃ fd, FunD K "_law_row" "_law_row" (defArgs (top 33)) (defBody (top 33)) (defScope (top 33)) [] [] (gAd "_law_row" K) fd
  d_law_cell : ∃ fd, FunD K "_law_cell" "_law_cell" (defArgs (top 32)) (defBody (top 32)) (defScope (top 32)) [] [] (gAd "_law_cell" K) fd
  d_law_dense : ∃ fd, FunD K "_law_dense" "_law_dense" (defArgs (top 35)) (defBody (top 35)) (defScope (top 35)) [] [] (gAd "_law_dense" K) fd
  d_law_word : ∃ fd, FunD K "_law_word" "_law_word" (defArgs (top 34)) (defBody (top 34)) (defScope (top 34)) [] [] (gAd "_law_word" K) fd
  d_Titled_is_word : ∃ fd, FunD K "is_word" "Titled.is_word" (defArgs (L2.inClass (top 20) 1)) (defBody (L2.inClass (top 20) 1)) (defScope (L2.inClass (top 20) 1)) [] [] (sAd "Titled" "is_word" K) fd
  d_Titled_init : ∃ fd, FunD K "__init__" "Titled.__init__" (defArgs (L2.inClass (top 20) 0)) (defBody (L2.inClass (top 20) 0)) (defScope (L2.inClass (top 20) 0)) [] [] (mAd "Titled" "__init__" K) fd
  d_Declaring_init : ∃ fd, FunD K "__init__" "Declaring.__init__" (defArgs (L2.inClass (top 22) 0)) (defBody (L2.inClass (top 22) 0)) (defScope (L2.inClass (top 22) 0)) [] [] (mAd "Declaring" "__init__" K) fd
  d_Kind_init : ∃ fd, FunD K "__init__" "Kind.__init__" (defArgs (L2.inClass (top 25) 0)) (defBody (L2.inClass (top 25) 0)) (defScope (L2.inClass (top 25) 0)) [] [] (mAd "Kind" "__init__" K) fd
  d_Library_admit : ∃ fd, FunD K "admit" "Library.admit" (defArgs (L2.inClass (top 30) 1)) (defBody (L2.inClass (top 30) 1)) (defScope (L2.inClass (top 30) 1)) [] [] (mAd "Library" "admit" K) fd
  d_Library_init : ∃ fd, FunD K "__init__" "Library.__init__" (defArgs (L2.inClass (top 30) 0)) (defBody (L2.inClass (top 30) 0)) (defScope (L2.inClass (top 30) 0)) [.ref (dfAd "Library" "__init__" 0 K)] [] (mAd "Library" "__init__" K) fd
  d_Base_init : ∃ fd, FunD K "__init__" "Base.__init__" (defArgs (L2.inClass (top 21) 0)) (defBody (L2.inClass (top 21) 0)) (defScope (L2.inClass (top 21) 0)) [.bl false] [] (mAd "Base" "__init__" K) fd
  d_Draft_init : ∃ fd, FunD K "__init__" "Draft.__init__" (defArgs (L2.inClass (top 23) 0)) (defBody (L2.inClass (top 23) 0)) (defScope (L2.inClass (top 23) 0)) [] [("names", .ref (kwAd "Draft" "__init__" "names" K)), ("statics", .ref (kwAd "Draft" "__init__" "statics" K)), ("bases", .ref (kwAd "Draft" "__init__" "bases" K))] (mAd "Draft" "__init__" K) fd
  d_law_draftsD : ∃ fd, FunD K "_law_drafts" "_law_drafts" (defArgs (top 36)) (defBody (top 36)) (defScope (top 36)) [] [] (gAd "_law_drafts" K) fd
  d_law_shared : ∃ fd, FunD K "_law_shared" "_law_shared" (defArgs (top 37)) (defBody (top 37)) (defScope (top 37)) [] [] (gAd "_law_shared" K) fd
  d_law_walk : ∃ fd, FunD K "_law_walk" "_law_walk" (defArgs (top 41)) (defBody (top 41)) (defScope (top 41)) [] [] (gAd "_law_walk" K) fd
  d_law_counts : ∃ fd, FunD K "_law_counts" "_law_counts" (defArgs (top 38)) (defBody (top 38)) (defScope (top 38)) [] [] (gAd "_law_counts" K) fd
  d_Library_contains : ∃ fd, FunD K "__contains__" "Library.__contains__" (defArgs (L2.inClass (top 30) 3)) (defBody (L2.inClass (top 30) 3)) (defScope (L2.inClass (top 30) 3)) [] [] (mAd "Library" "__contains__" K) fd
  d_Library_getitem : ∃ fd, FunD K "__getitem__" "Library.__getitem__" (defArgs (L2.inClass (top 30) 4)) (defBody (L2.inClass (top 30) 4)) (defScope (L2.inClass (top 30) 4)) [] [] (mAd "Library" "__getitem__" K) fd
  d_Library_iter : ∃ fd, FunD K "__iter__" "Library.__iter__" (defArgs (L2.inClass (top 30) 2)) (defBody (L2.inClass (top 30) 2)) (defScope (L2.inClass (top 30) 2)) [] [] (mAd "Library" "__iter__" K) fd
  d_few_ways : ∃ fd, FunD K "few_ways" "few_ways" (defArgs (top 13)) (defBody (top 13)) (defScope (top 13)) [] [] (gAd "few_ways" K) fd
  d_decided : ∃ fd, FunD K "decided" "decided" (defArgs (top 14)) (defBody (top 14)) (defScope (top 14)) [] [] (gAd "decided" K) fd
  d_convert : ∃ fd, FunD K "convert" "convert" (defArgs (top 15)) (defBody (top 15)) (defScope (top 15)) [] [] (gAd "convert" K) fd
  d_law_asked : ∃ fd, FunD K "_law_asked" "_law_asked" (defArgs (top 42)) (defBody (top 42)) (defScope (top 42)) [] [] (gAd "_law_asked" K) fd
  d_law_place : ∃ fd, FunD K "_law_place" "_law_place" (defArgs (top 39)) (defBody (top 39)) (defScope (top 39)) [] [] (gAd "_law_place" K) fd
  d_law_read_way : ∃ fd, FunD K "_law_read_way" "_law_read_way" (defArgs (top 40)) (defBody (top 40)) (defScope (top 40)) [] [] (gAd "_law_read_way" K) fd
  d_law : ∃ fd, FunD K "law" "law" (defArgs (top 43)) (defBody (top 43)) (defScope (top 43)) [] [] (gAd "law" K) fd
  xc_Ambiguous : XcA PG K ⟨"Ambiguous", "__init__", "Ambiguous.__init__", defArgs (L2.inClass (top 11) 0), defBody (L2.inClass (top 11) 0), defScope (L2.inClass (top 11) 0)⟩
  ox_Ambiguous : OexC K (He.ga K "Ambiguous")
  xn_Ambiguous_name : PySem.W.findIn K (.ref (He.ga K "Ambiguous")) "name" = some none
  xn_Ambiguous_one : PySem.W.findIn K (.ref (He.ga K "Ambiguous")) "one" = some none
  xn_Ambiguous_other : PySem.W.findIn K (.ref (He.ga K "Ambiguous")) "other" = some none
  xc_DuplicateBase : XcA PG K ⟨"DuplicateBase", "__init__", "DuplicateBase.__init__", defArgs (L2.inClass (top 5) 0), defBody (L2.inClass (top 5) 0), defScope (L2.inClass (top 5) 0)⟩
  ox_DuplicateBase : OexC K (He.ga K "DuplicateBase")
  xn_DuplicateBase_title : PySem.W.findIn K (.ref (He.ga K "DuplicateBase")) "title" = some none
  xc_DuplicateClass : XcA PG K ⟨"DuplicateClass", "__init__", "DuplicateClass.__init__", defArgs (L2.inClass (top 6) 0), defBody (L2.inClass (top 6) 0), defScope (L2.inClass (top 6) 0)⟩
  ox_DuplicateClass : OexC K (He.ga K "DuplicateClass")
  xn_DuplicateClass_title : PySem.W.findIn K (.ref (He.ga K "DuplicateClass")) "title" = some none
  xc_DuplicateName : XcA PG K ⟨"DuplicateName", "__init__", "DuplicateName.__init__", defArgs (L2.inClass (top 4) 0), defBody (L2.inClass (top 4) 0), defScope (L2.inClass (top 4) 0)⟩
  ox_DuplicateName : OexC K (He.ga K "DuplicateName")
  xn_DuplicateName_name : PySem.W.findIn K (.ref (He.ga K "DuplicateName")) "name" = some none
  xc_InvalidWord : XcA PG K ⟨"InvalidWord", "__init__", "InvalidWord.__init__", defArgs (L2.inClass (top 3) 0), defBody (L2.inClass (top 3) 0), defScope (L2.inClass (top 3) 0)⟩
  ox_InvalidWord : OexC K (He.ga K "InvalidWord")
  xn_InvalidWord_word : PySem.W.findIn K (.ref (He.ga K "InvalidWord")) "word" = some none
  xc_NoCopy : XcA PG K ⟨"NoCopy", "__init__", "NoCopy.__init__", defArgs (L2.inClass (top 9) 0), defBody (L2.inClass (top 9) 0), defScope (L2.inClass (top 9) 0)⟩
  ox_NoCopy : OexC K (He.ga K "NoCopy")
  xn_NoCopy_title : PySem.W.findIn K (.ref (He.ga K "NoCopy")) "title" = some none
  xc_TwoWays : XcA PG K ⟨"TwoWays", "__init__", "TwoWays.__init__", defArgs (L2.inClass (top 10) 0), defBody (L2.inClass (top 10) 0), defScope (L2.inClass (top 10) 0)⟩
  ox_TwoWays : OexC K (He.ga K "TwoWays")
  xn_TwoWays_one : PySem.W.findIn K (.ref (He.ga K "TwoWays")) "one" = some none
  xn_TwoWays_other : PySem.W.findIn K (.ref (He.ga K "TwoWays")) "other" = some none
  xc_UnknownClass : XcA PG K ⟨"UnknownClass", "__init__", "UnknownClass.__init__", defArgs (L2.inClass (top 7) 0), defBody (L2.inClass (top 7) 0), defScope (L2.inClass (top 7) 0)⟩
  ox_UnknownClass : OexC K (He.ga K "UnknownClass")
  xn_UnknownClass_title : PySem.W.findIn K (.ref (He.ga K "UnknownClass")) "title" = some none
def gg {K : PySem.W.Frag} {mg : Str → Option Value} (F : Fx K mg) : Gc where
  K := K
  cm := cmOf K
  has := fun c => c = "Base" ∨ c = "Draft" ∨ c = "Kind" ∨ c = "Library"
  cls := by
    intro c h
    rcases h with rfl | rfl | rfl | rfl
    · exact F.cl_Base
    · exact F.cl_Draft
    · exact F.cl_Kind
    · exact F.cl_Library
  noat := by
    intro c f h k
    rcases h with rfl | rfl | rfl | rfl
    · have k : f = "title" ∨ f = "is_shared" := by simpa [fldOf] using k
      rcases k with rfl | rfl
      · exact F.na_Base_title
      · exact F.na_Base_is_shared
    · have k : f = "title" ∨ f = "names" ∨ f = "statics" ∨ f = "bases" := by simpa [fldOf] using k
      rcases k with rfl | rfl | rfl | rfl
      · exact F.na_Draft_title
      · exact F.na_Draft_names
      · exact F.na_Draft_statics
      · exact F.na_Draft_bases
    · have k : f = "title" ∨ f = "names" ∨ f = "statics" ∨ f = "bases" ∨ f = "above" ∨ f = "shared_bases" := by simpa [fldOf] using k
      rcases k with rfl | rfl | rfl | rfl | rfl | rfl
      · exact F.na_Kind_title
      · exact F.na_Kind_names
      · exact F.na_Kind_statics
      · exact F.na_Kind_bases
      · exact F.na_Kind_above
      · exact F.na_Kind_shared_bases
    · have k : f = "kinds" ∨ f = "places" ∨ f = "names" := by simpa [fldOf] using k
      rcases k with rfl | rfl | rfl
      · exact F.na_Library_kinds
      · exact F.na_Library_places
      · exact F.na_Library_names
theorem x_DuplicateBase {w : World} {K : PySem.W.Frag} {mg : Str → Option Value} {base : Heap} (F : Fx K mg) : XMk PG w K mg base (gg F) "DuplicateBase" "DuplicateBase" ["title"] 1 :=
  xmk1 (k := 0) F.xc_DuplicateBase F.ox_DuplicateBase rfl F.g_DuplicateBase (by exact rfl) ⟨rfl, rfl, rfl, by decide +kernel, rfl, by decide +kernel, by decide +kernel, by decide +kernel, by decide +kernel, by decide +kernel⟩ ⟨_, rfl, rfl⟩ (by decide +kernel) F.n_super F.xn_DuplicateBase_title (fun _ _ _ _ _ _ _ us hl => match us, hl with | [_, _], _ => rfl) (by intros; exact rfl) (by decide) (by decide)
theorem x_DuplicateClass {w : World} {K : PySem.W.Frag} {mg : Str → Option Value} {base : Heap} (F : Fx K mg) : XMk PG w K mg base (gg F) "DuplicateClass" "DuplicateClass" ["title"] 1 :=
  xmk1 (k := 0) F.xc_DuplicateClass F.ox_DuplicateClass rfl F.g_DuplicateClass (by exact rfl) ⟨rfl, rfl, rfl, by decide +kernel, rfl, by decide +kernel, by decide +kernel, by decide +kernel, by decide +kernel, by decide +kernel⟩ ⟨_, rfl, rfl⟩ (by decide +kernel) F.n_super F.xn_DuplicateClass_title (fun _ _ _ _ _ _ _ us hl => match us, hl with | [_, _], _ => rfl) (by intros; exact rfl) (by decide) (by decide)
theorem x_DuplicateName {w : World} {K : PySem.W.Frag} {mg : Str → Option Value} {base : Heap} (F : Fx K mg) : XMk PG w K mg base (gg F) "DuplicateName" "DuplicateName" ["name"] 1 :=
  xmk1 (k := 0) F.xc_DuplicateName F.ox_DuplicateName rfl F.g_DuplicateName (by exact rfl) ⟨rfl, rfl, rfl, by decide +kernel, rfl, by decide +kernel, by decide +kernel, by decide +kernel, by decide +kernel, by decide +kernel⟩ ⟨_, rfl, rfl⟩ (by decide +kernel) F.n_super F.xn_DuplicateName_name (fun _ _ _ _ _ _ _ us hl => match us, hl with | [_, _], _ => rfl) (by intros; exact rfl) (by decide) (by decide)
theorem x_InvalidWord {w : World} {K : PySem.W.Frag} {mg : Str → Option Value} {base : Heap} (F : Fx K mg) : XMk PG w K mg base (gg F) "InvalidWord" "InvalidWord" ["word"] 1 :=
  xmk1 (k := 0) F.xc_InvalidWord F.ox_InvalidWord rfl F.g_InvalidWord (by exact rfl) ⟨rfl, rfl, rfl, by decide +kernel, rfl, by decide +kernel, by decide +kernel, by decide +kernel, by decide +kernel, by decide +kernel⟩ ⟨_, rfl, rfl⟩ (by decide +kernel) F.n_super F.xn_InvalidWord_word (fun _ _ _ _ _ _ _ us hl => match us, hl with | [_, _], _ => rfl) (by intros; exact rfl) (by decide) (by decide)
theorem x_NoCopy {w : World} {K : PySem.W.Frag} {mg : Str → Option Value} {base : Heap} (F : Fx K mg) : XMk PG w K mg base (gg F) "NoCopy" "NoCopy" ["title"] 1 :=
  xmk1 (k := 0) F.xc_NoCopy F.ox_NoCopy rfl F.g_NoCopy (by exact rfl) ⟨rfl, rfl, rfl, by decide +kernel, rfl, by decide +kernel, by decide +kernel, by decide +kernel, by decide +kernel, by decide +kernel⟩ ⟨_, rfl, rfl⟩ (by decide +kernel) F.n_super F.xn_NoCopy_title (fun _ _ _ _ _ _ _ us hl => match us, hl with | [_, _], _ => rfl) (by intros; exact rfl) (by decide) (by decide)
theorem x_TwoWays {w : World} {K : PySem.W.Frag} {mg : Str → Option Value} {base : Heap} (F : Fx K mg) : XMk PG w K mg base (gg F) "TwoWays" "TwoWays" ["one", "other"] 1 :=
  xmk2 (k := 0) F.xc_TwoWays F.ox_TwoWays rfl F.g_TwoWays (by exact rfl) ⟨rfl, rfl, rfl, by decide +kernel, rfl, by decide +kernel, by decide +kernel, by decide +kernel, by decide +kernel, by decide +kernel⟩ ⟨_, rfl, rfl⟩ (by decide +kernel) F.n_super F.xn_TwoWays_one F.xn_TwoWays_other (fun _ _ _ _ _ _ _ us hl => match us, hl with | [_, _, _], _ => rfl) (by intros; exact rfl) (by decide) (by decide)
theorem x_UnknownClass {w : World} {K : PySem.W.Frag} {mg : Str → Option Value} {base : Heap} (F : Fx K mg) : XMk PG w K mg base (gg F) "UnknownClass" "UnknownClass" ["title"] 1 :=
  xmk1 (k := 0) F.xc_UnknownClass F.ox_UnknownClass rfl F.g_UnknownClass (by exact rfl) ⟨rfl, rfl, rfl, by decide +kernel, rfl, by decide +kernel, by decide +kernel, by decide +kernel, by decide +kernel, by decide +kernel⟩ ⟨_, rfl, rfl⟩ (by decide +kernel) F.n_super F.xn_UnknownClass_title (fun _ _ _ _ _ _ _ us hl => match us, hl with | [_, _], _ => rfl) (by intros; exact rfl) (by decide) (by decide)
theorem xh_Ambiguous {w : World} {K : PySem.W.Frag} {mg : Str → Option Value} {base : Heap} (F : Fx K mg) : XMkH PG w K mg base (gg F) "Ambiguous" "Ambiguous" ["name", "one", "other"] 1 :=
  xmk3H (k := 0) F.xc_Ambiguous F.ox_Ambiguous rfl F.g_Ambiguous (by exact rfl) ⟨rfl, rfl, rfl, by decide +kernel, rfl, by decide +kernel, by decide +kernel, by decide +kernel, by decide +kernel, by decide +kernel⟩ ⟨_, rfl, rfl⟩ (by decide +kernel) F.n_super F.xn_Ambiguous_name F.xn_Ambiguous_one F.xn_Ambiguous_other (fun _ _ _ _ _ _ _ us hl => match us, hl with | [_, _, _, _], _ => rfl) (by intros; exact rfl) (by decide) (by decide)
theorem sc_law_row : FnScope ["_law_cell_here", "_law_seed", "_law_limits", "_law_row_here", "_law_rest", "_law_limit", "_law_k", "_law_mixed"] ["_law_cell_here", "_law_seed", "_law_limits"] (defScope (top 33)) := ⟨rfl, rfl, rfl, by decide +kernel, rfl, by decide +kernel, by decide +kernel⟩
theorem f_law_row {w : World} {K : PySem.W.Frag} {mg : Str → Option Value} {base : Heap} (F : Fx K mg) : PySem.W.keepIn K (.ref (gAd "_law_row" K)) = true ∧ FnOk PG w K mg base (L2.CX PG w) 1 (gAd "_law_row" K) F.d_law_row.choose ["_law_cell_here", "_law_seed", "_law_limits"] (dsp (gg F) d_law_row) ∧ Binds K F.d_law_row.choose ["_law_cell_here", "_law_seed", "_law_limits"] [] := by
  have FD := F.d_law_row.choose_spec
  refine ⟨FD.kp, fn_dsp FD rfl sc_law_row (Nat.le_of_ble_eq_true rfl) (k := 0) (b := b_law_row) (N := ["_law_cell_here", "_law_seed", "_law_limits", "_law_row_here", "_law_rest", "_law_limit", "_law_k", "_law_mixed"]) (fun cdv A outer s H E Ze => ?_), FD.bindsN fun _ _ _ _ _ _ us hl => match us, hl with | [_, _, _], _ => rfl⟩
  exact dss_cons (ds_own (i := 3) (by exact rfl) (by exact Nat.le_of_ble_eq_true rfl) (by exact Or.inl rfl) (pf_lst (da_nil))) (dss_cons (ds_set (i := 4) (by exact rfl) (by exact Nat.le_of_ble_eq_true rfl) (by exact Or.inl rfl) (pd_abs (by exact rfl) F.n_abs ((pd_int' (by exact rfl) F.n_int ((pd_var 0).w)).w))) (dss_cons (ds_if (pt_ge ((pd_var 4).w) ((pd_pow ((pd_int).w) ((pd_int).w)).w)) (dss_cons (ds_for (di_of (pd_var 2)) (dg_name (i := 5) (by exact rfl) (by exact Nat.le_of_ble_eq_true rfl) (by exact Or.inl rfl)) (dss_cons (ds_append (i := 3) (by exact rfl) (pd_mod ((pd_int' (by exact rfl) F.n_int ((pd_var 4).w)).w) ((pd_var 5).w))) (dss_one (ds_set (i := 4) (by exact rfl) (by exact Nat.le_of_ble_eq_true rfl) (by exact Or.inl rfl) (pd_fdiv ((pd_int' (by exact rfl) F.n_int ((pd_var 4).w)).w) ((pd_var 5).w)))))) (dss_one (ds_frz [3] (ds_ret (pd_var 3))))) (dss_nil)) (dss_cons (ds_for (di_range (by exact rfl) F.n_range (pd_len (by exact rfl) F.n_len ((pd_var 2).w))) (dg_name (i := 6) (by exact rfl) (by exact Nat.le_of_ble_eq_true rfl) (by exact Or.inl rfl)) (dss_cons (ds_set (i := 7) (by exact rfl) (by exact Nat.le_of_ble_eq_true rfl) (by exact Or.inl rfl) (pd_mod ((pd_int' (by exact rfl) F.n_int ((pd_add ((pd_add ((pd_add ((pd_mul ((pd_var 4).w) ((pd_int).w)).w) ((pd_mul ((pd_var 1).w) ((pd_int).w)).w)).w) ((pd_mul ((pd_var 6).w) ((pd_int).w)).w)).w) ((pd_int).w)).w)).w) ((pd_int).w))) (dss_cons (ds_set (i := 7) (by exact rfl) (by exact Nat.le_of_ble_eq_true rfl) (by exact Or.inl rfl) (pd_mod ((pd_int' (by exact rfl) F.n_int ((pd_add ((pd_add ((pd_mul ((pd_var 7).w) ((pd_add ((pd_fdiv ((pd_var 7).w) ((pd_int).w)).w) ((pd_int).w)).w)).w) ((pd_var 4).w)).w) ((pd_var 6).w)).w)).w) ((pd_int).w))) (dss_one (ds_append (i := 3) (by exact rfl) (pd_mod ((pd_int' (by exact rfl) F.n_int ((pd_fdiv ((pd_var 7).w) ((pd_int).w)).w)).w) ((pd_ix ((pd_var 2).w) ((pd_var 6).w)).w))))))) (dss_one (ds_frz [3] (ds_ret (pd_var 3)))))))
theorem k_law_row {w : World} {K : PySem.W.Frag} {mg : Str → Option Value} {base : Heap} (F : Fx K mg) : Fk PG w K mg base (gg F) "_law_row" d_law_row 1 := ⟨_, _, _, (f_law_row (w := w) (base := base) F).2.1, F.g__law_row, (f_law_row (w := w) (base := base) F).1, (f_law_row (w := w) (base := base) F).2.2⟩
theorem sc_law_cell : FnScope ["_law_script", "_law_k"] ["_law_script", "_law_k"] (defScope (top 32)) := ⟨rfl, rfl, rfl, by decide +kernel, rfl, by decide +kernel, by decide +kernel⟩
theorem f_law_cell {w : World} {K : PySem.W.Frag} {mg : Str → Option Value} {base : Heap} (F : Fx K mg) : PySem.W.keepIn K (.ref (gAd "_law_cell" K)) = true ∧ FnOk PG w K mg base (L2.CX PG w) 1 (gAd "_law_cell" K) F.d_law_cell.choose ["_law_script", "_law_k"] (dsp (gg F) d_law_cell) ∧ Binds K F.d_law_cell.choose ["_law_script", "_law_k"] [] := by
  have FD := F.d_law_cell.choose_spec
  refine ⟨FD.kp, fn_dsp FD rfl sc_law_cell (Nat.le_of_ble_eq_true rfl) (k := 0) (b := b_law_cell) (N := ["_law_script", "_law_k"]) (fun cdv A outer s H E Ze => ?_), FD.bindsN fun _ _ _ _ _ _ us hl => match us, hl with | [_, _], _ => rfl⟩
  exact dss_cons (ds_if (pt_lt ((pd_var 1).w) ((pd_len (by exact rfl) F.n_len ((pd_var 0).w)).w)) (dss_one (ds_ret (pd_int' (by exact rfl) F.n_int ((pd_ix ((pd_var 0).w) ((pd_var 1).w)).w)))) (dss_nil)) (dss_one (ds_ret (pd_mod ((pd_int' (by exact rfl) F.n_int ((pd_add ((pd_add ((pd_mul ((pd_sum (by exact rfl) F.n_sum ((pd_var 0).w)).w) ((pd_int).w)).w) ((pd_mul ((pd_var 1).w) ((pd_int).w)).w)).w) ((pd_len (by exact rfl) F.n_len ((pd_var 0).w)).w)).w)).w) ((pd_int).w))))
theorem k_law_cell {w : World} {K : PySem.W.Frag} {mg : Str → Option Value} {base : Heap} (F : Fx K mg) : Fk PG w K mg base (gg F) "_law_cell" d_law_cell 1 := ⟨_, _, _, (f_law_cell (w := w) (base := base) F).2.1, F.g__law_cell, (f_law_cell (w := w) (base := base) F).1, (f_law_cell (w := w) (base := base) F).2.2⟩
theorem sc_law_dense : FnScope ["_law_script", "_law_at", "_law_size", "_law_many", "_law_style", "_law_plan", "_law_j", "_law_spread", "_law_draws", "_law_links", "_law_k", "_law_marks", "_law_m", "_law_drawn"] ["_law_script", "_law_at", "_law_size", "_law_many", "_law_style"] (defScope (top 35)) := ⟨rfl, rfl, rfl, by decide +kernel, rfl, by decide +kernel, by decide +kernel⟩
theorem f_law_dense {w : World} {K : PySem.W.Frag} {mg : Str → Option Value} {base : Heap} (F : Fx K mg) : PySem.W.keepIn K (.ref (gAd "_law_dense" K)) = true ∧ FnOk PG w K mg base (L2.CX PG w) 2 (gAd "_law_dense" K) F.d_law_dense.choose ["_law_script", "_law_at", "_law_size", "_law_many", "_law_style"] (dsp (gg F) d_law_dense) ∧ Binds K F.d_law_dense.choose ["_law_script", "_law_at", "_law_size", "_law_many", "_law_style"] [] := by
  have FD := F.d_law_dense.choose_spec
  refine ⟨FD.kp, fn_dsp FD rfl sc_law_dense (Nat.le_of_ble_eq_true rfl) (k := 1) (b := b_law_dense) (N := ["_law_script", "_law_at", "_law_size", "_law_many", "_law_style", "_law_plan", "_law_j", "_law_spread", "_law_draws", "_law_links", "_law_k", "_law_marks", "_law_m", "_law_drawn"]) (fun cdv A outer s H E Ze => ?_), FD.bindsN fun _ _ _ _ _ _ us hl => match us, hl with | [_, _, _, _, _], _ => rfl⟩
  exact dss_cons (ds_own (i := 5) (by exact rfl) (by exact Nat.le_of_ble_eq_true rfl) (by exact Or.inl rfl) (pf_lst (da_nil))) (dss_cons (ds_for (di_range (by exact rfl) F.n_range (pd_var 2)) (dg_name (i := 6) (by exact rfl) (by exact Nat.le_of_ble_eq_true rfl) (by exact Or.inl rfl)) (dss_cons (ds_set (i := 7) (by exact rfl) (by exact Nat.le_of_ble_eq_true rfl) (by exact Or.inl rfl) (pd_int)) (dss_cons (ds_if (pt_bo (pw_and' (pt_gt ((pd_var 4).w) ((pd_int).w)) (pw_and1' (pt_gt ((pd_var 6).w) ((pd_int).w))))) (dss_one (ds_set (i := 7) (by exact rfl) (by exact Nat.le_of_ble_eq_true rfl) (by exact Or.inl rfl) (pd_int))) (dss_nil)) (dss_cons (ds_set (i := 8) (by exact rfl) (by exact Nat.le_of_ble_eq_true rfl) (by exact Or.inl rfl) (pd_call (k_law_row (w := w) (base := base) F) (by exact Nat.le_of_ble_eq_true rfl) (by exact rfl) (da_cons (pd_call (k_law_cell (w := w) (base := base) F) (by exact Nat.le_of_ble_eq_true rfl) (by exact rfl) (da_cons (pd_var 0) (da_cons (pd_add ((pd_var 1).w) ((pd_var 6).w)) (da_nil)))) (da_cons (pd_add ((pd_var 1).w) ((pd_var 6).w)) (da_cons (pd_add ((pd_mul ((pd_lst (da_cons (pd_ix ((pd_lst (da_cons (pd_int) (da_cons (pd_int) (da_cons (pd_int) (da_nil))))).w) ((pd_var 4).w)) (da_nil))).w) ((pd_var 6).w)).w) ((pd_mul ((pd_lst (da_cons (pd_var 7) (da_nil))).w) ((pd_var 3).w)).w)) (da_nil)))))) (dss_cons (ds_own (i := 9) (by exact rfl) (by exact Nat.le_of_ble_eq_true rfl) (by exact Or.inl rfl) (pf_lst (da_nil))) (dss_cons (ds_for (di_range (by exact rfl) F.n_range (pd_var 6)) (dg_name (i := 10) (by exact rfl) (by exact Nat.le_of_ble_eq_true rfl) (by exact Or.inl rfl)) (dss_cons (ds_if (pt_bo (pw_and' (pt_eq ((pd_var 4).w) ((pd_int).w)) (pw_and1' (pt_ge ((pd_ix ((pd_var 8).w) ((pd_var 10).w)).w) ((pd_int).w))))) (dss_one (ds_append (i := 9) (by exact rfl) (pd_lst (da_cons (pd_var 10) (da_cons (pd_sub ((pd_ix ((pd_var 8).w) ((pd_var 10).w)).w) ((pd_int).w)) (da_nil)))))) (dss_nil)) (dss_cons (ds_if (pt_bo (pw_and' (pt_eq ((pd_var 4).w) ((pd_int).w)) (pw_and1' (pt_ge ((pd_ix ((pd_var 8).w) ((pd_var 10).w)).w) ((pd_int).w))))) (dss_one (ds_append (i := 9) (by exact rfl) (pd_lst (da_cons (pd_var 10) (da_cons (pd_int' (by exact rfl) F.n_int ((pd_eq ((pd_ix ((pd_var 8).w) ((pd_var 10).w)).w) ((pd_int).w)).w)) (da_nil)))))) (dss_nil)) (dss_one (ds_if (pt_eq ((pd_var 4).w) ((pd_int).w)) (dss_one (ds_append (i := 9) (by exact rfl) (pd_lst (da_cons (pd_var 10) (da_cons (pd_int) (da_nil)))))) (dss_nil)))))) (dss_cons (ds_own (i := 11) (by exact rfl) (by exact Nat.le_of_ble_eq_true rfl) (by exact Or.inl rfl) (pf_lst (da_nil))) (dss_cons (ds_for (di_range (by exact rfl) F.n_range (pd_var 3)) (dg_name (i := 12) (by exact rfl) (by exact Nat.le_of_ble_eq_true rfl) (by exact Or.inl rfl)) (dss_cons (ds_set (i := 13) (by exact rfl) (by exact Nat.le_of_ble_eq_true rfl) (by exact Or.inl rfl) (pd_ix ((pd_var 8).w) ((pd_add ((pd_var 6).w) ((pd_var 12).w)).w))) (dss_one (ds_append (i := 11) (by exact rfl) (pd_add ((pd_int' (by exact rfl) F.n_int ((pd_eq ((pd_var 13).w) ((pd_sub ((pd_var 7).w) ((pd_int).w)).w)).w)).w) ((pd_mul ((pd_int).w) ((pd_int' (by exact rfl) F.n_int ((pd_eq ((pd_var 13).w) ((pd_sub ((pd_var 7).w) ((pd_int).w)).w)).w)).w)).w)))))) (dss_one (ds_frz [9, 11] (ds_append (i := 5) (by exact rfl) (pd_lst (da_cons (pd_var 9) (da_cons (pd_var 11) (da_nil))))))))))))))) (dss_one (ds_frz [5] (ds_ret (pd_var 5)))))
theorem k_law_dense {w : World} {K : PySem.W.Frag} {mg : Str → Option Value} {base : Heap} (F : Fx K mg) : Fk PG w K mg base (gg F) "_law_dense" d_law_dense 2 := ⟨_, _, _, (f_law_dense (w := w) (base := base) F).2.1, F.g__law_dense, (f_law_dense (w := w) (base := base) F).1, (f_law_dense (w := w) (base := base) F).2.2⟩
theorem sc_law_word : FnScope ["_law_style", "_law_k", "_law_letters", "_law_front", "_law_back"] ["_law_style", "_law_k"] (defScope (top 34)) := ⟨rfl, rfl, rfl, by decide +kernel, rfl, by decide +kernel, by decide +kernel⟩
theorem f_law_word {w : World} {K : PySem.W.Frag} {mg : Str → Option Value} {base : Heap} (F : Fx K mg) : PySem.W.keepIn K (.ref (gAd "_law_word" K)) = true ∧ FnOk PG w K mg base (L2.CX PG w) 1 (gAd "_law_word" K) F.d_law_word.choose ["_law_style", "_law_k"] (dsp (gg F) d_law_word) ∧ Binds K F.d_law_word.choose ["_law_style", "_law_k"] [] := by
  have FD := F.d_law_word.choose_spec
  refine ⟨FD.kp, fn_dsp FD rfl sc_law_word (Nat.le_of_ble_eq_true rfl) (k := 0) (b := b_law_word) (N := ["_law_style", "_law_k", "_law_letters", "_law_front", "_law_back"]) (fun cdv A outer s H E Ze => ?_), FD.bindsN fun _ _ _ _ _ _ us hl => match us, hl with | [_, _], _ => rfl⟩
  exact dss_cons (ds_set (i := 2) (by exact rfl) (by exact Nat.le_of_ble_eq_true rfl) (by exact Or.inl rfl) (pd_str)) (dss_cons (ds_set (i := 3) (by exact rfl) (by exact Nat.le_of_ble_eq_true rfl) (by exact Or.inl rfl) (pd_ix ((pd_lst (da_cons (pd_str) (da_cons (pd_str) (da_cons (pd_str) (da_cons (pd_str) (da_nil)))))).w) ((pd_mod ((pd_int' (by exact rfl) F.n_int ((pd_var 0).w)).w) ((pd_int).w)).w))) (dss_cons (ds_set (i := 4) (by exact rfl) (by exact Nat.le_of_ble_eq_true rfl) (by exact Or.inl rfl) (pd_ix ((pd_lst (da_cons (pd_str) (da_cons (pd_str) (da_cons (pd_str) (da_cons (pd_str) (da_nil)))))).w) ((pd_mod ((pd_fdiv ((pd_int' (by exact rfl) F.n_int ((pd_var 0).w)).w) ((pd_int).w)).w) ((pd_int).w)).w))) (dss_cons (ds_if (pt_eq ((pd_mod ((pd_fdiv ((pd_int' (by exact rfl) F.n_int ((pd_var 0).w)).w) ((pd_int).w)).w) ((pd_int).w)).w) ((pd_int).w)) (dss_one (ds_set (i := 4) (by exact rfl) (by exact Nat.le_of_ble_eq_true rfl) (by exact Or.inl rfl) (pd_add ((pd_var 4).w) ((pd_mul ((pd_str).w) ((pd_int' (by exact rfl) F.n_int ((pd_mod ((pd_int' (by exact rfl) F.n_int ((pd_var 1).w)).w) ((pd_int).w)).w)).w)).w)))) (dss_nil)) (dss_cons (ds_if (pt_ge ((pd_var 1).w) ((pd_int).w)) (dss_one (ds_set (i := 4) (by exact rfl) (by exact Nat.le_of_ble_eq_true rfl) (by exact Or.inl rfl) (pd_add ((pd_str).w) ((pd_var 4).w)))) (dss_nil)) (dss_one (ds_ret (pd_add ((pd_add ((pd_var 3).w) ((pd_ix ((pd_var 2).w) ((pd_mod ((pd_int' (by exact rfl) F.n_int ((pd_add ((pd_mul ((pd_var 1).w) ((pd_int).w)).w) ((pd_fdiv ((pd_int' (by exact rfl) F.n_int ((pd_var 0).w)).w) ((pd_int).w)).w)).w)).w) ((pd_int).w)).w)).w)).w) ((pd_var 4).w))))))))
theorem k_law_word {w : World} {K : PySem.W.Frag} {mg : Str → Option Value} {base : Heap} (F : Fx K mg) : Fk PG w K mg base (gg F) "_law_word" d_law_word 1 := ⟨_, _, _, (f_law_word (w := w) (base := base) F).2.1, F.g__law_word, (f_law_word (w := w) (base := base) F).1, (f_law_word (w := w) (base := base) F).2.2⟩
theorem sc_Titled_is_word : FnScope ["text", "char"] ["text"] (defScope (L2.inClass (top 20) 1)) := ⟨rfl, rfl, rfl, by decide +kernel, rfl, by decide +kernel, by decide +kernel⟩
theorem f_Titled_is_word {w : World} {K : PySem.W.Frag} {mg : Str → Option Value} {base : Heap} (F : Fx K mg) : PySem.W.keepIn K (.ref (sAd "Titled" "is_word" K)) = true ∧ FnOk PG w K mg base (L2.CX PG w) 1 (sAd "Titled" "is_word" K) F.d_Titled_is_word.choose ["text"] (dsp (gg F) d_Titled_is_word) ∧ Binds K F.d_Titled_is_word.choose ["text"] [] := by
  have FD := F.d_Titled_is_word.choose_spec
  refine ⟨FD.kp, fn_dsp FD rfl sc_Titled_is_word (Nat.le_of_ble_eq_true rfl) (k := 0) (b := b_Titled_is_word) (N := ["text", "char"]) (fun cdv A outer s H E Ze => ?_), FD.bindsN fun _ _ _ _ _ _ us hl => match us, hl with | [_], _ => rfl⟩
  exact dss_cons (ds_if (pt_bo (pw_or' (pt_lt ((pd_len (by exact rfl) F.n_len ((pd_var 0).w)).w) ((pd_int).w)) (pw_or' (pt_gt ((pd_len (by exact rfl) F.n_len ((pd_var 0).w)).w) ((pd_gint (by exact rfl) F.c_LONGEST).w)) (pw_or1' (pt_notin ((pd_ix ((pd_var 0).w) ((pd_int).w)).w) ((pd_gstr (by exact rfl) F.c_LETTERS).w)))))) (dss_one (ds_ret (pd_bl))) (dss_nil)) (dss_cons (ds_for (di_of (pd_var 0)) (dg_name (i := 1) (by exact rfl) (by exact Nat.le_of_ble_eq_true rfl) (by exact Or.inl rfl)) (dss_one (ds_if (pt_bo (pw_and' (pt_notin ((pd_var 1).w) ((pd_gstr (by exact rfl) F.c_LETTERS).w)) (pw_and1' (pt_notin ((pd_var 1).w) ((pd_gstr (by exact rfl) F.c_DIGITS).w))))) (dss_one (ds_ret (pd_bl))) (dss_nil)))) (dss_one (ds_ret (pd_bl))))
theorem sc_Titled_init : FnScope ["self", "title"] ["self", "title"] (defScope (L2.inClass (top 20) 0)) := ⟨rfl, rfl, rfl, by decide +kernel, rfl, by decide +kernel, by decide +kernel⟩
theorem f_Titled_init {w : World} {K : PySem.W.Frag} {mg : Str → Option Value} {base : Heap} (F : Fx K mg) : PySem.W.keepIn K (.ref (mAd "Titled" "__init__" K)) = true ∧ FnOk PG w K mg base (L2.CX PG w) 3 (mAd "Titled" "__init__" K) F.d_Titled_init.choose ["self", "title"] (dspM (gg F) d_Titled_init) ∧ Binds K F.d_Titled_init.choose ["self", "title"] [] := by
  have FD := F.d_Titled_init.choose_spec
  refine ⟨FD.kp, fn_init FD rfl sc_Titled_init (Nat.le_of_ble_eq_true rfl) (k := 2) (b := b_Titled_init) (N := ["self", "title"]) (fun cdv A outer s H E Ze sa => ?_), FD.bindsN fun _ _ _ _ _ _ us hl => match us, hl with | [_, _], _ => rfl⟩
  exact dss_cons (ds_if (pt_not' (pt_tru ((pd_cfn (by exact rfl) F.g_Titled F.sm_Titled_is_word (f_Titled_is_word (w := w) (base := base) F).2.1 (f_Titled_is_word (w := w) (base := base) F).2.2 (by exact Nat.le_of_ble_eq_true rfl) (da_cons (pd_var 1) (da_nil))).w))) (dss_one (ds_raise (x_InvalidWord (w := w) (base := base) F) (by exact Nat.le_of_ble_eq_true rfl) (by exact rfl) (da_cons (pd_var 1) (da_nil)))) (dss_nil)) (dss_one (ds_fld (i := 0) (by exact rfl) (pd_var 1)))
theorem sc_Declaring_init : FnScope ["self", "names", "statics", "given", "word"] ["self", "names", "statics"] (defScope (L2.inClass (top 22) 0)) := ⟨rfl, rfl, rfl, by decide +kernel, rfl, by decide +kernel, by decide +kernel⟩
theorem f_Declaring_init {w : World} {K : PySem.W.Frag} {mg : Str → Option Value} {base : Heap} (F : Fx K mg) : PySem.W.keepIn K (.ref (mAd "Declaring" "__init__" K)) = true ∧ FnOk PG w K mg base (L2.CX PG w) 3 (mAd "Declaring" "__init__" K) F.d_Declaring_init.choose ["self", "names", "statics"] (dspM (gg F) d_Declaring_init) ∧ Binds K F.d_Declaring_init.choose ["self", "names", "statics"] [] := by
  have FD := F.d_Declaring_init.choose_spec
  refine ⟨FD.kp, fn_init FD rfl sc_Declaring_init (Nat.le_of_ble_eq_true rfl) (k := 2) (b := b_Declaring_init) (N := ["self", "names", "statics", "given", "word"]) (fun cdv A outer s H E Ze sa => ?_), FD.bindsN fun _ _ _ _ _ _ us hl => match us, hl with | [_, _, _], _ => rfl⟩
  exact dss_cons (ds_own (i := 3) (by exact rfl) (by exact Nat.le_of_ble_eq_true rfl) (by exact Or.inl rfl) (pf_lst (da_nil))) (dss_cons (ds_for (di_of (pd_add ((pd_list (by exact rfl) F.n_list ((pd_var 1).w)).w) ((pd_list (by exact rfl) F.n_list ((pd_var 2).w)).w))) (dg_name (i := 4) (by exact rfl) (by exact Nat.le_of_ble_eq_true rfl) (by exact Or.inl rfl)) (dss_cons (ds_if (pt_not' (pt_tru ((pd_cfn (by exact rfl) F.g_Titled F.sm_Titled_is_word (f_Titled_is_word (w := w) (base := base) F).2.1 (f_Titled_is_word (w := w) (base := base) F).2.2 (by exact Nat.le_of_ble_eq_true rfl) (da_cons (pd_var 4) (da_nil))).w))) (dss_one (ds_raise (x_InvalidWord (w := w) (base := base) F) (by exact Nat.le_of_ble_eq_true rfl) (by exact rfl) (da_cons (pd_var 4) (da_nil)))) (dss_nil)) (dss_cons (ds_if (pt_in ((pd_var 4).w) (pd_look 3)) (dss_one (ds_raise (x_DuplicateName (w := w) (base := base) F) (by exact Nat.le_of_ble_eq_true rfl) (by exact rfl) (da_cons (pd_var 4) (da_nil)))) (dss_nil)) (dss_one (ds_append (i := 3) (by exact rfl) (pd_var 4)))))) (dss_cons (ds_fld (i := 0) (by exact rfl) (pd_tuple (by exact rfl) F.n_tuple ((pd_var 1).w))) (dss_one (ds_fld (i := 0) (by exact rfl) (pd_tuple (by exact rfl) F.n_tuple ((pd_var 2).w))))))
theorem sc_Kind_init : FnScope ["self", "draft", "above", "shared_bases"] ["self", "draft", "above", "shared_bases"] (defScope (L2.inClass (top 25) 0)) := ⟨rfl, rfl, rfl, by decide +kernel, rfl, by decide +kernel, by decide +kernel⟩
theorem f_Kind_init {w : World} {K : PySem.W.Frag} {mg : Str → Option Value} {base : Heap} (F : Fx K mg) : PySem.W.keepIn K (.ref (mAd "Kind" "__init__" K)) = true ∧ FnOk PG w K mg base (L2.CX PG w) 4 (mAd "Kind" "__init__" K) F.d_Kind_init.choose ["self", "draft", "above", "shared_bases"] (dspM (gg F) d_Kind_init) ∧ Binds K F.d_Kind_init.choose ["self", "draft", "above", "shared_bases"] [] := by
  have FD := F.d_Kind_init.choose_spec
  refine ⟨FD.kp, fn_init FD rfl sc_Kind_init (Nat.le_of_ble_eq_true rfl) (k := 3) (b := b_Kind_init) (N := ["self", "draft", "above", "shared_bases"]) (fun cdv A outer s H E Ze sa => ?_), FD.bindsN fun _ _ _ _ _ _ us hl => match us, hl with | [_, _, _, _], _ => rfl⟩
  exact dss_cons (ds_init (by exact rfl) F.g_Titled F.pm_Titled_init (f_Titled_init (w := w) (base := base) F).2.1 (f_Titled_init (w := w) (base := base) F).2.2 (by exact Nat.le_of_ble_eq_true rfl) (i := 0) (by exact rfl) (da_cons (pd_fld ((pd_var 1).w)) (da_nil))) (dss_cons (ds_init (by exact rfl) F.g_Declaring F.pm_Declaring_init (f_Declaring_init (w := w) (base := base) F).2.1 (f_Declaring_init (w := w) (base := base) F).2.2 (by exact Nat.le_of_ble_eq_true rfl) (i := 0) (by exact rfl) (da_cons (pd_fld ((pd_var 1).w)) (da_cons (pd_fld ((pd_var 1).w)) (da_nil)))) (dss_cons (ds_fld (i := 0) (by exact rfl) (pd_tuple (by exact rfl) F.n_tuple ((pd_fld ((pd_var 1).w)).w))) (dss_cons (ds_fld (i := 0) (by exact rfl) (pd_var 2)) (dss_one (ds_fld (i := 0) (by exact rfl) (pd_var 3))))))
theorem c_Kind_init {w : World} {K : PySem.W.Frag} {mg : Str → Option Value} {base : Heap} (F : Fx K mg) : Ck PG w K mg base (gg F) "Kind" "Kind" d_Kind_init 4 := ⟨_, _, _, (f_Kind_init (w := w) (base := base) F).2.1, F.mk_Kind, F.g_Kind, (f_Kind_init (w := w) (base := base) F).2.2, Or.inr (Or.inr (Or.inl rfl))⟩
theorem sc_Library_admit : FnScope ["self", "draft", "above", "shared", "base", "kind", "title", "titles", "above_titles", "shared_titles", "name"] ["self", "draft"] (defScope (L2.inClass (top 30) 1)) := ⟨rfl, rfl, rfl, by decide +kernel, rfl, by decide +kernel, by decide +kernel⟩
theorem f_Library_admit {w : World} {K : PySem.W.Frag} {mg : Str → Option Value} {base : Heap} (F : Fx K mg) : PySem.W.keepIn K (.ref (mAd "Library" "admit" K)) = true ∧ FnOk PG w K mg base (L2.CX PG w) 6 (mAd "Library" "admit" K) F.d_Library_admit.choose ["self", "draft"] (dspG (gg F) d_Library_admit) ∧ Binds K F.d_Library_admit.choose ["self", "draft"] [] := by
  have FD := F.d_Library_admit.choose_spec
  refine ⟨FD.kp, fn_initG FD rfl sc_Library_admit (Nat.le_of_ble_eq_true rfl) (k := 5) (b := b_Library_admit) (N := ["self", "draft", "above", "shared", "base", "kind", "title", "titles", "above_titles", "shared_titles", "name"]) (fun cdv A outer s H E Ze sa => ?_), FD.bindsN fun _ _ _ _ _ _ us hl => match us, hl with | [_, _], _ => rfl⟩
  exact dss_cons (ds_if (pt_in ((pd_fld ((pd_var 1).w)).w) (pd_self 0 (by exact rfl))) (dss_one (ds_raise (x_DuplicateClass (w := w) (base := base) F) (by exact Nat.le_of_ble_eq_true rfl) (by exact rfl) (da_cons (pd_fld ((pd_var 1).w)) (da_nil)))) (dss_nil)) (dss_cons (ds_own (i := 2) (by exact rfl) (by exact Nat.le_of_ble_eq_true rfl) (by exact Or.inr rfl) (pf_dict0)) (dss_cons (ds_own (i := 3) (by exact rfl) (by exact Nat.le_of_ble_eq_true rfl) (by exact Or.inr rfl) (pf_dict0)) (dss_cons (ds_for (di_of (pd_fld ((pd_var 1).w))) (dg_name (i := 4) (by exact rfl) (by exact Nat.le_of_ble_eq_true rfl) (by exact Or.inl rfl)) (dss_cons (ds_if (pt_notin ((pd_fld ((pd_var 4).w)).w) (pd_self 0 (by exact rfl))) (dss_one (ds_raise (x_UnknownClass (w := w) (base := base) F) (by exact Nat.le_of_ble_eq_true rfl) (by exact rfl) (da_cons (pd_fld ((pd_var 4).w)) (da_nil)))) (dss_nil)) (dss_cons (ds_set (i := 5) (by exact rfl) (by exact Nat.le_of_ble_eq_true rfl) (by exact Or.inl rfl) (pd_ix (pd_self 0 (by exact rfl)) ((pd_ix (pd_self 0 (by exact rfl)) ((pd_fld ((pd_var 4).w)).w)).w))) (dss_cons (ds_dput (i := 2) (by exact rfl) ((pd_fld ((pd_var 4).w)).w) (pd_bl)) (dss_cons (ds_for (di_of (pd_fld ((pd_var 5).w))) (dg_name (i := 6) (by exact rfl) (by exact Nat.le_of_ble_eq_true rfl) (by exact Or.inl rfl)) (dss_one (ds_dput (i := 2) (by exact rfl) ((pd_var 6).w) (pd_bl)))) (dss_cons (ds_for (di_of (pd_fld ((pd_var 5).w))) (dg_name (i := 6) (by exact rfl) (by exact Nat.le_of_ble_eq_true rfl) (by exact Or.inl rfl)) (dss_one (ds_dput (i := 3) (by exact rfl) ((pd_var 6).w) (pd_bl)))) (dss_one (ds_if (pt_tru ((pd_fld ((pd_var 4).w)).w)) (dss_one (ds_dput (i := 3) (by exact rfl) ((pd_fld ((pd_var 4).w)).w) (pd_bl))) (dss_nil))))))))) (dss_cons (ds_comp (i := 7) (by exact rfl) (by exact Nat.le_of_ble_eq_true rfl) (by exact rfl) (by exact sw_true rfl rfl rfl (by decide +kernel)) (own := [("kind", 5)]) (is := [5]) (di_lst (pd_self 0 (by exact rfl))) (blkOk_by (by show blkC ["self", "draft", "above", "shared", "base", "kind", "title", "titles", "above_titles", "shared_titles", "name"] (defScope (L2.inClass (top 30) 1)) _ _ = true; decide +kernel)) (by decide) (fun _ _ _ _ _ _ => dg_name (i := 5) (by exact rfl) (by exact Nat.le_of_ble_eq_true rfl) (by exact Or.inl rfl)) (fun _ _ _ _ _ _ => dts_nil) (fun _ _ _ _ _ _ => pd_fld ((pd_var 5).w))) (dss_cons (ds_gput (i := 0) (by exact rfl) ((pd_fld ((pd_var 1).w)).w) (pd_len (by exact rfl) F.n_len (pd_self 0 (by exact rfl)))) (dss_cons (ds_set (i := 8) (by exact rfl) (by exact Nat.le_of_ble_eq_true rfl) (by exact Or.inl rfl) (pd_tuple (by exact rfl) F.n_tuple ((pd_comp (own := [("title", 6)]) (is := [6]) (PDI.w (di_of (pd_var 7))) (blkOk_by (by show blkC ["self", "draft", "above", "shared", "base", "kind", "title", "titles", "above_titles", "shared_titles", "name"] (defScope (L2.inClass (top 30) 1)) _ _ = true; decide +kernel)) (by decide) (fun _ _ _ _ _ _ => dg_name (i := 6) (by exact rfl) (by exact Nat.le_of_ble_eq_true rfl) (by exact Or.inl rfl)) (fun _ _ _ _ _ _ => dts_one (pt_in ((pd_var 6).w) (pd_look 2))) (fun _ _ _ _ _ _ => pd_var 6)).w))) (dss_cons (ds_set (i := 9) (by exact rfl) (by exact Nat.le_of_ble_eq_true rfl) (by exact Or.inl rfl) (pd_tuple (by exact rfl) F.n_tuple ((pd_comp (own := [("title", 6)]) (is := [6]) (PDI.w (di_of (pd_var 7))) (blkOk_by (by show blkC ["self", "draft", "above", "shared", "base", "kind", "title", "titles", "above_titles", "shared_titles", "name"] (defScope (L2.inClass (top 30) 1)) _ _ = true; decide +kernel)) (by decide) (fun _ _ _ _ _ _ => dg_name (i := 6) (by exact rfl) (by exact Nat.le_of_ble_eq_true rfl) (by exact Or.inl rfl)) (fun _ _ _ _ _ _ => dts_one (pt_in ((pd_var 6).w) (pd_look 3))) (fun _ _ _ _ _ _ => pd_var 6)).w))) (dss_cons (ds_gapp (i := 0) (by exact rfl) (pd_make (c_Kind_init (w := w) (base := base) F) (by exact Nat.le_of_ble_eq_true rfl) (by exact rfl) (da_cons (pd_var 1) (da_cons (pd_var 8) (da_cons (pd_var 9) (da_nil)))))) (dss_one (ds_for (di_of (pd_add ((pd_fld ((pd_var 1).w)).w) ((pd_fld ((pd_var 1).w)).w))) (dg_name (i := 10) (by exact rfl) (by exact Nat.le_of_ble_eq_true rfl) (by exact Or.inl rfl)) (dss_one (ds_if (pt_notin ((pd_var 10).w) (pd_self 0 (by exact rfl))) (dss_one (ds_fld (i := 0) (by exact rfl) (pd_add (pd_self 0 (by exact rfl)) ((pd_tup (da_cons (pd_var 10) (da_nil))).w)))) (dss_nil)))))))))))))
theorem gk_Library_admit {w : World} {K : PySem.W.Frag} {mg : Str → Option Value} {base : Heap} (F : Fx K mg) : Gk PG w K mg base (gg F) "Library" "admit" d_Library_admit 6 := ⟨_, _, _, (f_Library_admit (w := w) (base := base) F).2.1, F.me_Library_admit, (f_Library_admit (w := w) (base := base) F).2.2, by decide, F.cl_Library⟩
theorem sc_Library_init : FnScope ["self", "drafts", "draft"] ["self", "drafts"] (defScope (L2.inClass (top 30) 0)) := ⟨rfl, rfl, rfl, by decide +kernel, rfl, by decide +kernel, by decide +kernel⟩
theorem f_Library_init {w : World} {K : PySem.W.Frag} {mg : Str → Option Value} {base : Heap} (F : Fx K mg) : FnOk PG w K mg base (L2.CX PG w) 7 (mAd "Library" "__init__" K) F.d_Library_init.choose ["self", "drafts"] (dspM (gg F) d_Library_init) := by
  have FD := F.d_Library_init.choose_spec
  exact fn_initQ FD rfl sc_Library_init (Nat.le_of_ble_eq_true rfl) (k := 6) (b := b_Library_init) (N := ["self", "drafts", "draft"]) (fun cdv A outer s H E Ze sa => dss_cons (ds_gnew (i := 0) (by exact rfl) (pf_lst (da_nil)) (by exact Nat.le_of_ble_eq_true rfl)) (dss_cons (ds_gnew (i := 0) (by exact rfl) (pf_dict0) (by exact Nat.le_of_ble_eq_true rfl)) (dss_cons (ds_fld (i := 0) (by exact rfl) (pd_tup (da_nil))) (dss_one (ds_for (di_of (pd_var 1)) (dg_name (i := 2) (by exact rfl) (by exact Nat.le_of_ble_eq_true rfl) (by exact Or.inl rfl)) (dss_one (ds_gcall (gk_Library_admit (w := w) (base := base) F) (by exact Nat.le_of_ble_eq_true rfl) (i := 0) (by exact rfl) (da_cons (pd_var 2) (da_nil)))))))))
theorem c_Library_init {w : World} {K : PySem.W.Frag} {mg : Str → Option Value} {base : Heap} (F : Fx K mg) : Ck PG w K mg base (gg F) "Library" "Library" d_Library_init 7 := ⟨_, _, _, f_Library_init (w := w) (base := base) F, F.mk_Library, F.g_Library, bindsW F.d_Library_init.choose_spec fun T kV doc pm an cdv ct us its h1 h2 => match us, its, h1, h2 with | [_, _], [_], _, _ => ⟨_, rfl, rfl⟩, Or.inr (Or.inr (Or.inr (rfl)))⟩
theorem sc_Base_init : FnScope ["self", "title", "is_shared"] ["self", "title", "is_shared"] (defScope (L2.inClass (top 21) 0)) := ⟨rfl, rfl, rfl, by decide +kernel, rfl, by decide +kernel, by decide +kernel⟩
theorem f_Base_init {w : World} {K : PySem.W.Frag} {mg : Str → Option Value} {base : Heap} (F : Fx K mg) : FnOk PG w K mg base (L2.CX PG w) 4 (mAd "Base" "__init__" K) F.d_Base_init.choose ["self", "title", "is_shared"] (dspM (gg F) d_Base_init) := by
  have FD := F.d_Base_init.choose_spec
  exact fn_init FD rfl sc_Base_init (Nat.le_of_ble_eq_true rfl) (k := 3) (b := b_Base_init) (N := ["self", "title", "is_shared"]) (fun cdv A outer s H E Ze sa => dss_cons (ds_init (by exact rfl) F.g_Titled F.pm_Titled_init (f_Titled_init (w := w) (base := base) F).2.1 (f_Titled_init (w := w) (base := base) F).2.2 (by exact Nat.le_of_ble_eq_true rfl) (i := 0) (by exact rfl) (da_cons (pd_var 1) (da_nil))) (dss_one (ds_fld (i := 0) (by exact rfl) (pd_var 2))))
theorem c_Base_init {w : World} {K : PySem.W.Frag} {mg : Str → Option Value} {base : Heap} (F : Fx K mg) : Ck PG w K mg base (gg F) "Base" "Base" d_Base_init 4 := ⟨_, _, _, f_Base_init (w := w) (base := base) F, F.mk_Base, F.g_Base, bindsW F.d_Base_init.choose_spec fun T kV doc pm an cdv ct us its h1 h2 => match us, its, h1, h2 with | [_, _, _], [_], _, _ => ⟨_, rfl, rfl⟩, Or.inl rfl⟩
theorem sc_Draft_init : FnScope ["self", "title", "names", "statics", "bases", "given", "base"] ["self", "title", "names", "statics", "bases"] (defScope (L2.inClass (top 23) 0)) := ⟨rfl, rfl, rfl, by decide +kernel, rfl, by decide +kernel, by decide +kernel⟩
theorem f_Draft_init {w : World} {K : PySem.W.Frag} {mg : Str → Option Value} {base : Heap} (F : Fx K mg) : FnOk PG w K mg base (L2.CX PG w) 4 (mAd "Draft" "__init__" K) F.d_Draft_init.choose ["self", "title", "names", "statics", "bases"] (dspM (gg F) d_Draft_init) := by
  have FD := F.d_Draft_init.choose_spec
  exact fn_init FD rfl sc_Draft_init (Nat.le_of_ble_eq_true rfl) (k := 3) (b := b_Draft_init) (N := ["self", "title", "names", "statics", "bases", "given", "base"]) (fun cdv A outer s H E Ze sa => dss_cons (ds_init (by exact rfl) F.g_Titled F.pm_Titled_init (f_Titled_init (w := w) (base := base) F).2.1 (f_Titled_init (w := w) (base := base) F).2.2 (by exact Nat.le_of_ble_eq_true rfl) (i := 0) (by exact rfl) (da_cons (pd_var 1) (da_nil))) (dss_cons (ds_init (by exact rfl) F.g_Declaring F.pm_Declaring_init (f_Declaring_init (w := w) (base := base) F).2.1 (f_Declaring_init (w := w) (base := base) F).2.2 (by exact Nat.le_of_ble_eq_true rfl) (i := 0) (by exact rfl) (da_cons (pd_var 2) (da_cons (pd_var 3) (da_nil)))) (dss_cons (ds_own (i := 5) (by exact rfl) (by exact Nat.le_of_ble_eq_true rfl) (by exact Or.inl rfl) (pf_lst (da_nil))) (dss_cons (ds_for (di_of (pd_var 4)) (dg_name (i := 6) (by exact rfl) (by exact Nat.le_of_ble_eq_true rfl) (by exact Or.inl rfl)) (dss_cons (ds_if (pt_in ((pd_fld ((pd_var 6).w)).w) (pd_look 5)) (dss_one (ds_raise (x_DuplicateBase (w := w) (base := base) F) (by exact Nat.le_of_ble_eq_true rfl) (by exact rfl) (da_cons (pd_fld ((pd_var 6).w)) (da_nil)))) (dss_nil)) (dss_one (ds_append (i := 5) (by exact rfl) (pd_fld ((pd_var 6).w)))))) (dss_one (ds_fld (i := 0) (by exact rfl) (pd_tuple (by exact rfl) F.n_tuple ((pd_var 4).w))))))))
theorem kw_Draft_3 {w : World} {K : PySem.W.Frag} {mg : Str → Option Value} {base : Heap} (F : Fx K mg) : CkK PG w K mg base (gg F) "Draft" "Draft" 1 ["names", "statics", "bases"] gDr3 d_Draft_init 4 := by
  obtain ⟨mv, hk⟩ := L2.FunD.kbinds0 (ps := ["self", "title", "names", "statics", "bases"]) F.d_Draft_init.choose_spec 2 ["names", "statics", "bases"] [] (fun us mv ws => us ++ (ws ++ mv)) (by exact fun q => by cases q) (by exact fun q h => by cases h) (fun r1 r2 r3 => r1.append (r3.append r2)) (fun D doc pm an cdv ct us mv ws h1 h2 h3 => match us, mv, ws, h1, h2, h3 with | [_, _], [], [_, _, _], _, _, _ => rfl)
  exact ⟨_, _, _, _, _, f_Draft_init (w := w) (base := base) F, F.mk_Draft, F.g_Draft, cons0 hk, Or.inr (Or.inl rfl), fun Z H ds es vs us l1 l2 r1 r2 => r1.append (r2.append (RepL.nil))⟩
theorem sc_law_draftsD : FnScope ["_law_plan", "_law_words", "_law_labels", "_law_drafts_here", "_law_j", "_law_plain", "_law_fixed", "_law_links", "_law_m", "_law_link"] ["_law_plan", "_law_words", "_law_labels"] (defScope (top 36)) := ⟨rfl, rfl, rfl, by decide +kernel, rfl, by decide +kernel, by decide +kernel⟩
theorem f_law_draftsD {w : World} {K : PySem.W.Frag} {mg : Str → Option Value} {base : Heap} (F : Fx K mg) : PySem.W.keepIn K (.ref (gAd "_law_drafts" K)) = true ∧ FnOk PG w K mg base (L2.CX PG w) 6 (gAd "_law_drafts" K) F.d_law_draftsD.choose ["_law_plan", "_law_words", "_law_labels"] (dsp (gg F) d_law_draftsD) ∧ Binds K F.d_law_draftsD.choose ["_law_plan", "_law_words", "_law_labels"] [] := by
  have FD := F.d_law_draftsD.choose_spec
  refine ⟨FD.kp, fn_dsp FD rfl sc_law_draftsD (Nat.le_of_ble_eq_true rfl) (k := 5) (b := b_law_draftsD) (N := ["_law_plan", "_law_words", "_law_labels", "_law_drafts_here", "_law_j", "_law_plain", "_law_fixed", "_law_links", "_law_m", "_law_link"]) (fun cdv A outer s H E Ze => ?_), FD.bindsN fun _ _ _ _ _ _ us hl => match us, hl with | [_, _, _], _ => rfl⟩
  exact dss_cons (ds_own (i := 3) (by exact rfl) (by exact Nat.le_of_ble_eq_true rfl) (by exact Or.inl rfl) (pf_lst (da_nil))) (dss_cons (ds_for (di_range (by exact rfl) F.n_range (pd_len (by exact rfl) F.n_len ((pd_var 0).w))) (dg_name (i := 4) (by exact rfl) (by exact Nat.le_of_ble_eq_true rfl) (by exact Or.inr rfl)) (dss_cons (ds_comp (i := 5) (by exact rfl) (by exact Nat.le_of_ble_eq_true rfl) (by exact rfl) (by exact sw_true rfl rfl rfl (by decide +kernel)) (own := [("_law_m", 8)]) (is := [8]) (PDI.w (di_range (by exact rfl) F.n_range (pd_len (by exact rfl) F.n_len ((pd_var 2).w)))) (blkOk_by (by show blkC ["_law_plan", "_law_words", "_law_labels", "_law_drafts_here", "_law_j", "_law_plain", "_law_fixed", "_law_links", "_law_m", "_law_link"] (defScope (top 36)) _ _ = true; decide +kernel)) (by decide) (fun _ _ _ _ _ _ => dg_name (i := 8) (by exact rfl) (by exact Nat.le_of_ble_eq_true rfl) (by exact Or.inl rfl)) (fun _ _ _ _ _ _ => dts_one (pt_eq ((pd_ix ((pd_ix ((pd_ix ((pd_var 0).w) ((pd_var 4).w)).w) ((pd_int).w)).w) ((pd_var 8).w)).w) ((pd_int).w))) (fun _ _ _ _ _ _ => pd_ix ((pd_var 2).w) ((pd_var 8).w))) (dss_cons (ds_comp (i := 6) (by exact rfl) (by exact Nat.le_of_ble_eq_true rfl) (by exact rfl) (by exact sw_true rfl rfl rfl (by decide +kernel)) (own := [("_law_m", 8)]) (is := [8]) (PDI.w (di_range (by exact rfl) F.n_range (pd_len (by exact rfl) F.n_len ((pd_var 2).w)))) (blkOk_by (by show blkC ["_law_plan", "_law_words", "_law_labels", "_law_drafts_here", "_law_j", "_law_plain", "_law_fixed", "_law_links", "_law_m", "_law_link"] (defScope (top 36)) _ _ = true; decide +kernel)) (by decide) (fun _ _ _ _ _ _ => dg_name (i := 8) (by exact rfl) (by exact Nat.le_of_ble_eq_true rfl) (by exact Or.inl rfl)) (fun _ _ _ _ _ _ => dts_one (pt_eq ((pd_ix ((pd_ix ((pd_ix ((pd_var 0).w) ((pd_var 4).w)).w) ((pd_int).w)).w) ((pd_var 8).w)).w) ((pd_int).w))) (fun _ _ _ _ _ _ => pd_ix ((pd_var 2).w) ((pd_var 8).w))) (dss_cons (ds_comp (i := 7) (by exact rfl) (by exact Nat.le_of_ble_eq_true rfl) (by exact rfl) (by exact sw_true rfl rfl rfl (by decide +kernel)) (own := [("_law_link", 9)]) (is := [9]) (PDI.w (di_of (pd_ix ((pd_ix ((pd_var 0).w) ((pd_var 4).w)).w) ((pd_int).w)))) (blkOk_by (by show blkC ["_law_plan", "_law_words", "_law_labels", "_law_drafts_here", "_law_j", "_law_plain", "_law_fixed", "_law_links", "_law_m", "_law_link"] (defScope (top 36)) _ _ = true; decide +kernel)) (by decide) (fun _ _ _ _ _ _ => dg_name (i := 9) (by exact rfl) (by exact Nat.le_of_ble_eq_true rfl) (by exact Or.inl rfl)) (fun _ _ _ _ _ _ => dts_nil) (fun _ _ _ _ _ _ => pd_make (c_Base_init (w := w) (base := base) F) (by exact Nat.le_of_ble_eq_true rfl) (by exact rfl) (da_cons (pd_ix ((pd_var 1).w) ((pd_ix ((pd_var 9).w) ((pd_int).w)).w)) (da_cons (pd_eq ((pd_ix ((pd_var 9).w) ((pd_int).w)).w) ((pd_int).w)) (da_nil))))) (dss_one (ds_append (i := 3) (by exact rfl) (pd_makeK (kw_Draft_3 (w := w) (base := base) F) (by exact Nat.le_of_ble_eq_true rfl) (by exact rfl) (da_cons (pd_ix ((pd_var 1).w) ((pd_var 4).w)) (da_nil)) (dk_cons (pd_var 5) (dk_cons (pd_var 6) (dk_cons (pd_var 7) (dk_nil)))) rfl))))))) (dss_one (ds_frz [3] (ds_ret (pd_var 3)))))
theorem k_law_draftsD {w : World} {K : PySem.W.Frag} {mg : Str → Option Value} {base : Heap} (F : Fx K mg) : Fk PG w K mg base (gg F) "_law_drafts" d_law_draftsD 6 := ⟨_, _, _, (f_law_draftsD (w := w) (base := base) F).2.1, F.g__law_drafts, (f_law_draftsD (w := w) (base := base) F).1, (f_law_draftsD (w := w) (base := base) F).2.2⟩
theorem sc_law_shared : FnScope ["_law_plan", "_law_table", "_law_j", "_law_mine", "_law_link", "_law_k"] ["_law_plan"] (defScope (top 37)) := ⟨rfl, rfl, rfl, by decide +kernel, rfl, by decide +kernel, by decide +kernel⟩
theorem f_law_shared {w : World} {K : PySem.W.Frag} {mg : Str → Option Value} {base : Heap} (F : Fx K mg) : PySem.W.keepIn K (.ref (gAd "_law_shared" K)) = true ∧ FnOk PG w K mg base (L2.CX PG w) 1 (gAd "_law_shared" K) F.d_law_shared.choose ["_law_plan"] (dsp (gg F) d_law_shared) ∧ Binds K F.d_law_shared.choose ["_law_plan"] [] := by
  have FD := F.d_law_shared.choose_spec
  refine ⟨FD.kp, fn_dsp FD rfl sc_law_shared (Nat.le_of_ble_eq_true rfl) (k := 0) (b := b_law_shared) (N := ["_law_plan", "_law_table", "_law_j", "_law_mine", "_law_link", "_law_k"]) (fun cdv A outer s H E Ze => ?_), FD.bindsN fun _ _ _ _ _ _ us hl => match us, hl with | [_], _ => rfl⟩
  exact dss_cons (ds_own (i := 1) (by exact rfl) (by exact Nat.le_of_ble_eq_true rfl) (by exact Or.inl rfl) (pf_lst (da_nil))) (dss_cons (ds_for (di_range (by exact rfl) F.n_range (pd_len (by exact rfl) F.n_len ((pd_var 0).w))) (dg_name (i := 2) (by exact rfl) (by exact Nat.le_of_ble_eq_true rfl) (by exact Or.inl rfl)) (dss_cons (ds_own (i := 3) (by exact rfl) (by exact Nat.le_of_ble_eq_true rfl) (by exact Or.inl rfl) (pf_lst (da_nil))) (dss_cons (ds_for (di_of (pd_ix ((pd_ix ((pd_var 0).w) ((pd_var 2).w)).w) ((pd_int).w))) (dg_name (i := 4) (by exact rfl) (by exact Nat.le_of_ble_eq_true rfl) (by exact Or.inl rfl)) (dss_cons (ds_for (di_of (pd_ix (pd_look 1) ((pd_ix ((pd_var 4).w) ((pd_int).w)).w))) (dg_name (i := 5) (by exact rfl) (by exact Nat.le_of_ble_eq_true rfl) (by exact Or.inl rfl)) (dss_one (ds_if (pt_notin ((pd_var 5).w) (pd_look 3)) (dss_one (ds_append (i := 3) (by exact rfl) (pd_var 5))) (dss_nil)))) (dss_one (ds_if (pt_bo (pw_and' (pt_eq ((pd_ix ((pd_var 4).w) ((pd_int).w)).w) ((pd_int).w)) (pw_and1' (pt_notin ((pd_ix ((pd_var 4).w) ((pd_int).w)).w) (pd_look 3))))) (dss_one (ds_append (i := 3) (by exact rfl) (pd_ix ((pd_var 4).w) ((pd_int).w)))) (dss_nil))))) (dss_one (ds_frz [3] (ds_append (i := 1) (by exact rfl) (pd_var 3))))))) (dss_one (ds_frz [1] (ds_ret (pd_var 1)))))
theorem k_law_shared {w : World} {K : PySem.W.Frag} {mg : Str → Option Value} {base : Heap} (F : Fx K mg) : Fk PG w K mg base (gg F) "_law_shared" d_law_shared 1 := ⟨_, _, _, (f_law_shared (w := w) (base := base) F).2.1, F.g__law_shared, (f_law_shared (w := w) (base := base) F).1, (f_law_shared (w := w) (base := base) F).2.2⟩
theorem sc_law_walk : FnScope ["_law_plan", "_law_way", "_law_steps", "_law_step", "_law_links", "_law_link"] ["_law_plan", "_law_way", "_law_steps"] (defScope (top 41)) := ⟨rfl, rfl, rfl, by decide +kernel, rfl, by decide +kernel, by decide +kernel⟩
theorem f_law_walk {w : World} {K : PySem.W.Frag} {mg : Str → Option Value} {base : Heap} (F : Fx K mg) : PySem.W.keepIn K (.ref (gAd "_law_walk" K)) = true ∧ FnOk PG w K mg base (L2.CX PG w) 1 (gAd "_law_walk" K) F.d_law_walk.choose ["_law_plan", "_law_way", "_law_steps"] (dsp (gg F) d_law_walk) ∧ Binds K F.d_law_walk.choose ["_law_plan", "_law_way", "_law_steps"] [] := by
  have FD := F.d_law_walk.choose_spec
  refine ⟨FD.kp, fn_dsp FD rfl sc_law_walk (Nat.le_of_ble_eq_true rfl) (k := 0) (b := b_law_walk) (N := ["_law_plan", "_law_way", "_law_steps", "_law_step", "_law_links", "_law_link"]) (fun cdv A outer s H E Ze => ?_), FD.bindsN fun _ _ _ _ _ _ us hl => match us, hl with | [_, _, _], _ => rfl⟩
  exact dss_cons (ds_for (di_of (pd_var 2)) (dg_name (i := 3) (by exact rfl) (by exact Nat.le_of_ble_eq_true rfl) (by exact Or.inl rfl)) (dss_cons (ds_set (i := 4) (by exact rfl) (by exact Nat.le_of_ble_eq_true rfl) (by exact Or.inl rfl) (pd_ix ((pd_ix ((pd_var 0).w) ((pd_ix ((pd_var 1).w) ((pd_neg ((pd_int).w)).w)).w)).w) ((pd_int).w))) (dss_cons (ds_if (pt_eq ((pd_var 4).w) ((pd_lst (da_nil)).w)) (dss_one (ds_break)) (dss_nil)) (dss_cons (ds_set (i := 5) (by exact rfl) (by exact Nat.le_of_ble_eq_true rfl) (by exact Or.inl rfl) (pd_ix ((pd_var 4).w) ((pd_mod ((pd_var 3).w) ((pd_len (by exact rfl) F.n_len ((pd_var 4).w)).w)).w))) (dss_one (ds_if (pt_eq ((pd_ix ((pd_var 5).w) ((pd_int).w)).w) ((pd_int).w)) (dss_one (ds_set (i := 1) (by exact rfl) (by exact Nat.le_of_ble_eq_true rfl) (by exact Or.inl rfl) (pd_tup (da_cons (pd_ix ((pd_var 5).w) ((pd_int).w)) (da_nil))))) (dss_one (ds_set (i := 1) (by exact rfl) (by exact Nat.le_of_ble_eq_true rfl) (by exact Or.inl rfl) (pd_add ((pd_var 1).w) ((pd_tup (da_cons (pd_ix ((pd_var 5).w) ((pd_int).w)) (da_nil))).w)))))))))) (dss_one (ds_ret (pd_var 1)))
theorem k_law_walk {w : World} {K : PySem.W.Frag} {mg : Str → Option Value} {base : Heap} (F : Fx K mg) : Fk PG w K mg base (gg F) "_law_walk" d_law_walk 1 := ⟨_, _, _, (f_law_walk (w := w) (base := base) F).2.1, F.g__law_walk, (f_law_walk (w := w) (base := base) F).1, (f_law_walk (w := w) (base := base) F).2.2⟩
theorem sc_law_counts : FnScope ["_law_plan", "_law_low", "_law_counts_here", "_law_j", "_law_total", "_law_link"] ["_law_plan", "_law_low"] (defScope (top 38)) := ⟨rfl, rfl, rfl, by decide +kernel, rfl, by decide +kernel, by decide +kernel⟩
theorem f_law_counts {w : World} {K : PySem.W.Frag} {mg : Str → Option Value} {base : Heap} (F : Fx K mg) : PySem.W.keepIn K (.ref (gAd "_law_counts" K)) = true ∧ FnOk PG w K mg base (L2.CX PG w) 1 (gAd "_law_counts" K) F.d_law_counts.choose ["_law_plan", "_law_low"] (dsp (gg F) d_law_counts) ∧ Binds K F.d_law_counts.choose ["_law_plan", "_law_low"] [] := by
  have FD := F.d_law_counts.choose_spec
  refine ⟨FD.kp, fn_dsp FD rfl sc_law_counts (Nat.le_of_ble_eq_true rfl) (k := 0) (b := b_law_counts) (N := ["_law_plan", "_law_low", "_law_counts_here", "_law_j", "_law_total", "_law_link"]) (fun cdv A outer s H E Ze => ?_), FD.bindsN fun _ _ _ _ _ _ us hl => match us, hl with | [_, _], _ => rfl⟩
  exact dss_cons (ds_own (i := 2) (by exact rfl) (by exact Nat.le_of_ble_eq_true rfl) (by exact Or.inl rfl) (pf_lst (da_nil))) (dss_cons (ds_for (di_range (by exact rfl) F.n_range (pd_len (by exact rfl) F.n_len ((pd_var 0).w))) (dg_name (i := 3) (by exact rfl) (by exact Nat.le_of_ble_eq_true rfl) (by exact Or.inl rfl)) (dss_cons (ds_set (i := 4) (by exact rfl) (by exact Nat.le_of_ble_eq_true rfl) (by exact Or.inl rfl) (pd_int' (by exact rfl) F.n_int ((pd_eq ((pd_var 3).w) ((pd_var 1).w)).w))) (dss_cons (ds_for (di_of (pd_ix ((pd_ix ((pd_var 0).w) ((pd_var 3).w)).w) ((pd_int).w))) (dg_name (i := 5) (by exact rfl) (by exact Nat.le_of_ble_eq_true rfl) (by exact Or.inl rfl)) (dss_one (ds_if (pt_eq ((pd_ix ((pd_var 5).w) ((pd_int).w)).w) ((pd_int).w)) (dss_one (ds_set (i := 4) (by exact rfl) (by exact Nat.le_of_ble_eq_true rfl) (by exact Or.inl rfl) (pd_add ((pd_var 4).w) ((pd_ix (pd_look 2) ((pd_ix ((pd_var 5).w) ((pd_int).w)).w)).w)))) (dss_nil)))) (dss_one (ds_append (i := 2) (by exact rfl) (pd_var 4)))))) (dss_one (ds_frz [2] (ds_ret (pd_var 2)))))
theorem k_law_counts {w : World} {K : PySem.W.Frag} {mg : Str → Option Value} {base : Heap} (F : Fx K mg) : Fk PG w K mg base (gg F) "_law_counts" d_law_counts 1 := ⟨_, _, _, (f_law_counts (w := w) (base := base) F).2.1, F.g__law_counts, (f_law_counts (w := w) (base := base) F).1, (f_law_counts (w := w) (base := base) F).2.2⟩
theorem sc_Library_contains : FnScope ["self", "title"] ["self", "title"] (defScope (L2.inClass (top 30) 3)) := ⟨rfl, rfl, rfl, by decide +kernel, rfl, by decide +kernel, by decide +kernel⟩
theorem f_Library_contains {w : World} {K : PySem.W.Frag} {mg : Str → Option Value} {base : Heap} (F : Fx K mg) : PySem.W.keepIn K (.ref (mAd "Library" "__contains__" K)) = true ∧ FnOk PG w K mg base (L2.CX PG w) 1 (mAd "Library" "__contains__" K) F.d_Library_contains.choose ["self", "title"] (dsp (gg F) d_Library_contains) ∧ Binds K F.d_Library_contains.choose ["self", "title"] [] := by
  have FD := F.d_Library_contains.choose_spec
  refine ⟨FD.kp, fn_dsp FD rfl sc_Library_contains (Nat.le_of_ble_eq_true rfl) (k := 0) (b := b_Library_contains) (N := ["self", "title"]) (fun cdv A outer s H E Ze => ?_), FD.bindsN fun _ _ _ _ _ _ us hl => match us, hl with | [_, _], _ => rfl⟩
  exact dss_one (ds_ret (pd_in ((pd_var 1).w) ((pd_fld ((pd_var 0).w)).w)))
theorem dn_Library_contains {w : World} {K : PySem.W.Frag} {mg : Str → Option Value} {base : Heap} (F : Fx K mg) : Dn PG w K mg base (gg F) "Library" "__contains__" d_Library_contains 1 := ⟨_, _, _, (f_Library_contains (w := w) (base := base) F).2.1, F.me_Library_contains, (f_Library_contains (w := w) (base := base) F).2.2, fnIn_of F.d_Library_contains.choose_spec⟩
theorem sc_Library_getitem : FnScope ["self", "title"] ["self", "title"] (defScope (L2.inClass (top 30) 4)) := ⟨rfl, rfl, rfl, by decide +kernel, rfl, by decide +kernel, by decide +kernel⟩
theorem f_Library_getitem {w : World} {K : PySem.W.Frag} {mg : Str → Option Value} {base : Heap} (F : Fx K mg) : PySem.W.keepIn K (.ref (mAd "Library" "__getitem__" K)) = true ∧ FnOk PG w K mg base (L2.CX PG w) 3 (mAd "Library" "__getitem__" K) F.d_Library_getitem.choose ["self", "title"] (dsp (gg F) d_Library_getitem) ∧ Binds K F.d_Library_getitem.choose ["self", "title"] [] := by
  have FD := F.d_Library_getitem.choose_spec
  refine ⟨FD.kp, fn_dsp FD rfl sc_Library_getitem (Nat.le_of_ble_eq_true rfl) (k := 2) (b := b_Library_getitem) (N := ["self", "title"]) (fun cdv A outer s H E Ze => ?_), FD.bindsN fun _ _ _ _ _ _ us hl => match us, hl with | [_, _], _ => rfl⟩
  exact dss_cons (ds_if (pt_notin ((pd_var 1).w) ((pd_fld ((pd_var 0).w)).w)) (dss_one (ds_raise (x_UnknownClass (w := w) (base := base) F) (by exact Nat.le_of_ble_eq_true rfl) (by exact rfl) (da_cons (pd_var 1) (da_nil)))) (dss_nil)) (dss_one (ds_ret (pd_ix ((pd_fld ((pd_var 0).w)).w) ((pd_ix ((pd_fld ((pd_var 0).w)).w) ((pd_var 1).w)).w))))
theorem dn_Library_getitem {w : World} {K : PySem.W.Frag} {mg : Str → Option Value} {base : Heap} (F : Fx K mg) : Dn PG w K mg base (gg F) "Library" "__getitem__" d_Library_getitem 3 := ⟨_, _, _, (f_Library_getitem (w := w) (base := base) F).2.1, F.me_Library_getitem, (f_Library_getitem (w := w) (base := base) F).2.2, fnIn_of F.d_Library_getitem.choose_spec⟩
theorem sc_Library_iter : FnScope ["self"] ["self"] (defScope (L2.inClass (top 30) 2)) := ⟨rfl, rfl, rfl, by decide +kernel, rfl, by decide +kernel, by decide +kernel⟩
theorem it_Library {w : World} {K : PySem.W.Frag} {mg : Str → Option Value} {base : Heap} (F : Fx K mg) : It1 PG w K mg base (gg F) "Library" "kinds" := by
  have FD := F.d_Library_iter.choose_spec
  exact ⟨_, _, _, _, _, _, _, _, _, F.me_Library_iter, FD, sc_Library_iter, rfl, FD.bindsN fun _ _ _ _ _ _ us hl => match us, hl with | [_], _ => rfl, it_body sc_Library_iter rfl (by decide +kernel) (by decide) (by decide) (by decide +kernel) F.n_iter F.cl_Library F.na_Library_kinds⟩
theorem sc_few_ways : FnScope ["library", "base", "ways", "kind", "found", "steps", "step", "way"] ["library", "base"] (defScope (top 13)) := ⟨rfl, rfl, rfl, by decide +kernel, rfl, by decide +kernel, by decide +kernel⟩
theorem f_few_ways {w : World} {K : PySem.W.Frag} {mg : Str → Option Value} {base : Heap} (F : Fx K mg) : PySem.W.keepIn K (.ref (gAd "few_ways" K)) = true ∧ FnOk PG w K mg base (L2.CX PG w) 2 (gAd "few_ways" K) F.d_few_ways.choose ["library", "base"] (dsp (gg F) d_few_ways) ∧ Binds K F.d_few_ways.choose ["library", "base"] [] := by
  have FD := F.d_few_ways.choose_spec
  refine ⟨FD.kp, fn_dsp FD rfl sc_few_ways (Nat.le_of_ble_eq_true rfl) (k := 1) (b := b_few_ways) (N := ["library", "base", "ways", "kind", "found", "steps", "step", "way"]) (fun cdv A outer s H E Ze => ?_), FD.bindsN fun _ _ _ _ _ _ us hl => match us, hl with | [_, _], _ => rfl⟩
  exact dss_cons (ds_own (i := 2) (by exact rfl) (by exact Nat.le_of_ble_eq_true rfl) (by exact Or.inr rfl) (pf_dict0)) (dss_cons (ds_for (di_own (it_Library (w := w) (base := base) F) (by exact Nat.le_of_ble_eq_true rfl) (pd_var 0)) (dg_name (i := 3) (by exact rfl) (by exact Nat.le_of_ble_eq_true rfl) (by exact Or.inr rfl)) (dss_cons (ds_set (i := 4) (by exact rfl) (by exact Nat.le_of_ble_eq_true rfl) (by exact Or.inl rfl) (pd_lst (da_cons (pd_tup (da_cons (pd_var 1) (da_nil))) (da_nil)))) (dss_cons (ds_if (pt_ne ((pd_fld ((pd_var 3).w)).w) ((pd_var 1).w)) (dss_cons (ds_comp (i := 5) (by exact rfl) (by exact Nat.le_of_ble_eq_true rfl) (by exact rfl) (by exact sw_true rfl rfl rfl (by decide +kernel)) (own := [("step", 6)]) (is := [6]) (PDI.w (di_of (pd_fld ((pd_var 3).w)))) (blkOk_by (by show blkC ["library", "base", "ways", "kind", "found", "steps", "step", "way"] (defScope (top 13)) _ _ = true; decide +kernel)) (by decide) (fun _ _ _ _ _ _ => dg_name (i := 6) (by exact rfl) (by exact Nat.le_of_ble_eq_true rfl) (by exact Or.inl rfl)) (fun _ _ _ _ _ _ => dts_one (pt_not' (pt_tru ((pd_fld ((pd_var 6).w)).w)))) (fun _ _ _ _ _ _ => pd_fld ((pd_var 6).w))) (dss_one (ds_comp2 (i := 4) (by exact rfl) (by exact Nat.le_of_ble_eq_true rfl) (by exact rfl) (by exact sw_true rfl rfl rfl (by decide +kernel)) (own := [("step", 6), ("way", 7)]) (is := [6]) (vs1 := [7]) (PDI.w (di_of (pd_var 5))) (blkOk_by (by show blkC ["library", "base", "ways", "kind", "found", "steps", "step", "way"] (defScope (top 13)) _ _ = true; decide +kernel)) (by decide) (by decide) (fun _ _ _ _ _ _ => dg_name (i := 6) (by exact rfl) (by exact Nat.le_of_ble_eq_true rfl) (by exact Or.inl rfl)) (fun _ _ _ _ _ _ => di_of (pd_ix (pd_look 2) ((pd_var 6).w))) (fun _ _ _ _ _ _ => dg_name (i := 7) (by exact rfl) (by exact Nat.le_of_ble_eq_true rfl) (by exact Or.inl rfl)) (fun _ _ _ _ _ _ => dts_nil) (fun _ _ _ _ _ _ => pd_add ((pd_tup (da_cons (pd_fld ((pd_var 3).w)) (da_nil))).w) ((pd_var 7).w))))) (dss_nil)) (dss_one (ds_dput (i := 2) (by exact rfl) ((pd_fld ((pd_var 3).w)).w) (pd_slice ((pd_var 4).w) (px_none) (px_some ((pd_int).w)))))))) (dss_one (ds_frz [2] (ds_ret (pd_var 2)))))
theorem k_few_ways {w : World} {K : PySem.W.Frag} {mg : Str → Option Value} {base : Heap} (F : Fx K mg) : Fk PG w K mg base (gg F) "few_ways" d_few_ways 2 := ⟨_, _, _, (f_few_ways (w := w) (base := base) F).2.1, F.g_few_ways, (f_few_ways (w := w) (base := base) F).1, (f_few_ways (w := w) (base := base) F).2.2⟩
theorem sc_decided : FnScope ["found", "title"] ["found", "title"] (defScope (top 14)) := ⟨rfl, rfl, rfl, by decide +kernel, rfl, by decide +kernel, by decide +kernel⟩
theorem kn_decided {w : World} {K : PySem.W.Frag} {mg : Str → Option Value} {base : Heap} (F : Fx K mg) : FkN PG w K mg base (gg F) "decided" d_decided 3 := by
  have FD := F.d_decided.choose_spec
  exact ⟨_, _, _, fn_dspN FD rfl sc_decided (Nat.le_of_ble_eq_true rfl) (k := 2) (b := b_decided) (N := ["found", "title"]) (fun cdv A outer s H E Ze => pns_cons (pn_if (pt_gt ((pd_len (by exact rfl) F.n_len ((pd_var 0).w)).w) ((pd_int).w)) (nxt_val (nx_2 (nx_1 (nx_var _)) nx_c)) (pns_one (pn_raise (x_TwoWays (w := w) (base := base) F) (by exact Nat.le_of_ble_eq_true rfl) (by exact rfl) (da_cons (pd_ix ((pd_var 0).w) ((pd_int).w)) (da_cons (pd_ix ((pd_var 0).w) ((pd_int).w)) (da_nil))) (nxa_cons (nx_2 (nx_var _) nx_c) (nxa_cons (nx_2 (nx_var _) nx_c) nxa_nil)))) pns_nil) (pns_cons (pn_if (pt_eq ((pd_len (by exact rfl) F.n_len ((pd_var 0).w)).w) ((pd_int).w)) (nxt_val (nx_2 (nx_1 (nx_var _)) nx_c)) (pns_one (pn_raise (x_NoCopy (w := w) (base := base) F) (by exact Nat.le_of_ble_eq_true rfl) (by exact rfl) (da_cons (pd_var 1) (da_nil)) (nxa_cons (nx_var _) nxa_nil))) pns_nil) (pns_one (pn_ret (pd_ix ((pd_var 0).w) ((pd_int).w)) (nx_2 (nx_var _) nx_c))))), F.g_decided, FD.kp, FD.bindsN fun _ _ _ _ _ _ us hl => match us, hl with | [_, _], _ => rfl⟩
theorem sc_convert : FnScope ["library", "way", "base", "kind", "ways", "found", "root", "why", "rest"] ["library", "way", "base"] (defScope (top 15)) := ⟨rfl, rfl, rfl, by decide +kernel, rfl, by decide +kernel, by decide +kernel⟩
theorem f_convert {w : World} {K : PySem.W.Frag} {mg : Str → Option Value} {base : Heap} (F : Fx K mg) : PySem.W.keepIn K (.ref (gAd "convert" K)) = true ∧ FnOk PG w K mg base (L2.CX PG w) 5 (gAd "convert" K) F.d_convert.choose ["library", "way", "base"] (dsp (gg F) d_convert) ∧ Binds K F.d_convert.choose ["library", "way", "base"] [] := by
  have FD := F.d_convert.choose_spec
  refine ⟨FD.kp, fn_dsp FD rfl sc_convert (Nat.le_of_ble_eq_true rfl) (k := 4) (b := b_convert) (N := ["library", "way", "base", "kind", "ways", "found", "root", "why", "rest"]) (fun cdv A outer s H E Ze => ?_), FD.bindsN fun _ _ _ _ _ _ us hl => match us, hl with | [_, _, _], _ => rfl⟩
  exact dss_cons (ds_if (pt_notinO (dn_Library_contains (w := w) (base := base) F) (by exact Nat.le_of_ble_eq_true rfl) (pd_var 2) (pd_var 0)) (dss_one (ds_raise (x_UnknownClass (w := w) (base := base) F) (by exact Nat.le_of_ble_eq_true rfl) (by exact rfl) (da_cons (pd_var 2) (da_nil)))) (dss_nil)) (dss_cons (ds_set (i := 3) (by exact rfl) (by exact Nat.le_of_ble_eq_true rfl) (by exact Or.inl rfl) (pd_ixO (dn_Library_getitem (w := w) (base := base) F) (by exact Nat.le_of_ble_eq_true rfl) (pd_var 0) (pd_ix ((pd_var 1).w) ((pd_neg ((pd_int).w)).w)))) (dss_cons (ds_set (i := 4) (by exact rfl) (by exact Nat.le_of_ble_eq_true rfl) (by exact Or.inl rfl) (pd_call (k_few_ways (w := w) (base := base) F) (by exact Nat.le_of_ble_eq_true rfl) (by exact rfl) (da_cons (pd_var 0) (da_cons (pd_var 2) (da_nil))))) (dss_cons (ds_comp (i := 5) (by exact rfl) (by exact Nat.le_of_ble_eq_true rfl) (by exact rfl) (by exact sw_true rfl rfl rfl (by decide +kernel)) (own := [("rest", 8)]) (is := [8]) (PDI.w (di_of (pd_ix ((pd_var 4).w) ((pd_fld ((pd_var 3).w)).w)))) (blkOk_by (by show blkC ["library", "way", "base", "kind", "ways", "found", "root", "why", "rest"] (defScope (top 15)) _ _ = true; decide +kernel)) (by decide) (fun _ _ _ _ _ _ => dg_name (i := 8) (by exact rfl) (by exact Nat.le_of_ble_eq_true rfl) (by exact Or.inl rfl)) (fun _ _ _ _ _ _ => dts_nil) (fun _ _ _ _ _ _ => pd_add ((pd_tuple (by exact rfl) F.n_tuple ((pd_slice ((pd_var 1).w) (px_none) (px_some ((pd_neg ((pd_int).w)).w))).w)).w) ((pd_var 8).w))) (dss_cons (ds_for (di_of (pd_fld ((pd_var 3).w))) (dg_name (i := 6) (by exact rfl) (by exact Nat.le_of_ble_eq_true rfl) (by exact Or.inl rfl)) (dss_one (ds_set (i := 5) (by exact rfl) (by exact Nat.le_of_ble_eq_true rfl) (by exact Or.inl rfl) (pd_add ((pd_var 5).w) ((pd_ix ((pd_var 4).w) ((pd_var 6).w)).w))))) (dss_one (ds_tryR (es := ["NoCopy", "TwoWays", "UnknownClass"]) rfl rfl rfl (fun _ => PassesOwnAt.leaving) (kn_decided (w := w) (base := base) F) (by exact Nat.le_of_ble_eq_true rfl) (by exact rfl) (fun pn xe => da_cons (pd_var 5) (da_cons (pd_var 2) (da_nil))) (nxa_cons (nx_var _) (nxa_cons (nx_var _) nxa_nil)) ⟨by exact rfl, by decide, .inl F.g_TwoWays⟩ (by exact rfl) (by exact rfl) (fun a ha => F.xcs.exr ((by decide : ∀ a ∈ ["NoCopy", "TwoWays", "UnknownClass"], a ∈ ["Ambiguous", "DuplicateBase", "DuplicateClass", "DuplicateName", "InvalidWord", "NoCopy", "TwoWays", "UnknownClass"]) a ha) (by decide) (by decide)) (fun a ha => by
    have h : a = "NoCopy" ∨ a = "TwoWays" ∨ a = "UnknownClass" := by simpa using ha
    rcases h with rfl | rfl | rfl
    · exact F.ox_NoCopy
    · exact F.ox_TwoWays
    · exact F.ox_UnknownClass) (xh_Ambiguous (w := w) (base := base) F) (by exact Nat.le_of_ble_eq_true rfl) (by exact rfl) (fun e a dd oe pn su => dea_cons (de_lift (pd_var 2)) (dea_cons (de_xf su F.xcs (by decide) (fun _ => rfl) (f := "one") (by decide) (by exact rfl)) (dea_cons (de_xf su F.xcs (by decide) (fun _ => rfl) (f := "other") (by decide) (by exact rfl)) (dea_nil)))) (fun e => (nxa_cons (nx_var _) (nxa_cons nx_xf (nxa_cons nx_xf nxa_nil))))))))))
theorem k_convert {w : World} {K : PySem.W.Frag} {mg : Str → Option Value} {base : Heap} (F : Fx K mg) : Fk PG w K mg base (gg F) "convert" d_convert 5 := ⟨_, _, _, (f_convert (w := w) (base := base) F).2.1, F.g_convert, (f_convert (w := w) (base := base) F).1, (f_convert (w := w) (base := base) F).2.2⟩
theorem sc_law_asked : FnScope ["_law_library", "_law_way", "_law_head", "e", "f"] ["_law_library", "_law_way", "_law_head"] (defScope (top 42)) := ⟨rfl, rfl, rfl, by decide +kernel, rfl, by decide +kernel, by decide +kernel⟩
theorem f_law_asked {w : World} {K : PySem.W.Frag} {mg : Str → Option Value} {base : Heap} (F : Fx K mg) : PySem.W.keepIn K (.ref (gAd "_law_asked" K)) = true ∧ FnOk PG w K mg base (L2.CX PG w) 6 (gAd "_law_asked" K) F.d_law_asked.choose ["_law_library", "_law_way", "_law_head"] (dsp (gg F) d_law_asked) ∧ Binds K F.d_law_asked.choose ["_law_library", "_law_way", "_law_head"] [] := by
  have FD := F.d_law_asked.choose_spec
  refine ⟨FD.kp, fn_dsp FD rfl sc_law_asked (Nat.le_of_ble_eq_true rfl) (k := 5) (b := b_law_asked) (N := ["_law_library", "_law_way", "_law_head", "e", "f"]) (fun cdv A outer s H E Ze => ?_), FD.bindsN fun _ _ _ _ _ _ us hl => match us, hl with | [_, _, _], _ => rfl⟩
  exact dss_one (ds_try (es := ["Ambiguous", "DuplicateBase", "DuplicateClass", "DuplicateName", "InvalidWord", "NoCopy", "TwoWays", "UnknownClass"]) rfl rfl (fun W pn xe => dss_one (ds_ret (pd_lst (da_cons (pd_call (k_convert (w := w) (base := base) F) (by exact Nat.le_of_ble_eq_true rfl) (by exact rfl) (da_cons (pd_var 0) (da_cons (pd_var 1) (da_cons (pd_var 2) (da_nil))))) (da_nil))))) (.cons (c := "NoCopy") ⟨by exact rfl, by decide, .inl F.g_NoCopy⟩ (by exact rfl) (by exact rfl) (fun a ha => F.xcs.exr ((by decide : ∀ a ∈ ["Ambiguous", "DuplicateBase", "DuplicateClass", "DuplicateName", "InvalidWord", "NoCopy", "TwoWays", "UnknownClass"], a ∈ ["Ambiguous", "DuplicateBase", "DuplicateClass", "DuplicateName", "InvalidWord", "NoCopy", "TwoWays", "UnknownClass"]) a ha) (by decide) (by decide)) (fun e a dd oe pn su => dse_one (dse_ret (de_lst (dea_cons (de_lift (pd_str)) (dea_cons (de_xf su F.xcs (by decide) (fun _ => rfl) (f := "title") (by decide) (by exact rfl)) (dea_nil)))))) (.cons (c := "Ambiguous") ⟨by exact rfl, by decide, .inl F.g_Ambiguous⟩ (by exact rfl) (by exact rfl) (fun a ha => F.xcs.exr ((by decide : ∀ a ∈ ["Ambiguous", "DuplicateBase", "DuplicateClass", "DuplicateName", "InvalidWord", "NoCopy", "TwoWays", "UnknownClass"], a ∈ ["Ambiguous", "DuplicateBase", "DuplicateClass", "DuplicateName", "InvalidWord", "NoCopy", "TwoWays", "UnknownClass"]) a ha) (by decide) (by decide)) (fun e a dd oe pn su => dse_one (dse_ret (de_lst (dea_cons (de_xf su F.xcs (by decide) (fun _ => rfl) (f := "one") (by decide) (by exact rfl)) (dea_cons (de_xf su F.xcs (by decide) (fun _ => rfl) (f := "other") (by decide) (by exact rfl)) (dea_cons (de_xf su F.xcs (by decide) (fun _ => rfl) (f := "name") (by decide) (by exact rfl)) (dea_nil))))))) (.nil))))
theorem k_law_asked {w : World} {K : PySem.W.Frag} {mg : Str → Option Value} {base : Heap} (F : Fx K mg) : Fk PG w K mg base (gg F) "_law_asked" d_law_asked 6 := ⟨_, _, _, (f_law_asked (w := w) (base := base) F).2.1, F.g__law_asked, (f_law_asked (w := w) (base := base) F).1, (f_law_asked (w := w) (base := base) F).2.2⟩
theorem sc_law_place : FnScope ["_law_words", "_law_part", "_law_k"] ["_law_words", "_law_part"] (defScope (top 39)) := ⟨rfl, rfl, rfl, by decide +kernel, rfl, by decide +kernel, by decide +kernel⟩
theorem f_law_place {w : World} {K : PySem.W.Frag} {mg : Str → Option Value} {base : Heap} (F : Fx K mg) : PySem.W.keepIn K (.ref (gAd "_law_place" K)) = true ∧ FnOk PG w K mg base (L2.CX PG w) 1 (gAd "_law_place" K) F.d_law_place.choose ["_law_words", "_law_part"] (dsp (gg F) d_law_place) ∧ Binds K F.d_law_place.choose ["_law_words", "_law_part"] [] := by
  have FD := F.d_law_place.choose_spec
  refine ⟨FD.kp, fn_dsp FD rfl sc_law_place (Nat.le_of_ble_eq_true rfl) (k := 0) (b := b_law_place) (N := ["_law_words", "_law_part", "_law_k"]) (fun cdv A outer s H E Ze => ?_), FD.bindsN fun _ _ _ _ _ _ us hl => match us, hl with | [_, _], _ => rfl⟩
  exact dss_cons (ds_for (di_range (by exact rfl) F.n_range (pd_len (by exact rfl) F.n_len ((pd_var 0).w))) (dg_name (i := 2) (by exact rfl) (by exact Nat.le_of_ble_eq_true rfl) (by exact Or.inl rfl)) (dss_one (ds_if (pt_eq ((pd_ix ((pd_var 0).w) ((pd_var 2).w)).w) ((pd_var 1).w)) (dss_one (ds_ret (pd_var 2))) (dss_nil)))) (dss_one (ds_ret (pd_neg ((pd_int).w))))
theorem k_law_place {w : World} {K : PySem.W.Frag} {mg : Str → Option Value} {base : Heap} (F : Fx K mg) : Fk PG w K mg base (gg F) "_law_place" d_law_place 1 := ⟨_, _, _, (f_law_place (w := w) (base := base) F).2.1, F.g__law_place, (f_law_place (w := w) (base := base) F).1, (f_law_place (w := w) (base := base) F).2.2⟩
theorem sc_law_read_way : FnScope ["_law_plan", "_law_deep", "_law_words", "_law_top", "_law_way", "_law_places", "_law_k", "_law_part"] ["_law_plan", "_law_deep", "_law_words", "_law_top", "_law_way"] (defScope (top 40)) := ⟨rfl, rfl, rfl, by decide +kernel, rfl, by decide +kernel, by decide +kernel⟩
theorem f_law_read_way {w : World} {K : PySem.W.Frag} {mg : Str → Option Value} {base : Heap} (F : Fx K mg) : PySem.W.keepIn K (.ref (gAd "_law_read_way" K)) = true ∧ FnOk PG w K mg base (L2.CX PG w) 2 (gAd "_law_read_way" K) F.d_law_read_way.choose ["_law_plan", "_law_deep", "_law_words", "_law_top", "_law_way"] (dsp (gg F) d_law_read_way) ∧ Binds K F.d_law_read_way.choose ["_law_plan", "_law_deep", "_law_words", "_law_top", "_law_way"] [] := by
  have FD := F.d_law_read_way.choose_spec
  refine ⟨FD.kp, fn_dsp FD rfl sc_law_read_way (Nat.le_of_ble_eq_true rfl) (k := 1) (b := b_law_read_way) (N := ["_law_plan", "_law_deep", "_law_words", "_law_top", "_law_way", "_law_places", "_law_k", "_law_part"]) (fun cdv A outer s H E Ze => ?_), FD.bindsN fun _ _ _ _ _ _ us hl => match us, hl with | [_, _, _, _, _], _ => rfl⟩
  exact dss_cons (ds_if (pt_bo (pw_or' (pt_not' (pt_tru ((pd_isi "tuple" (by exact rfl) F.n_isinstance ((pd_var 4).w) (by exact rfl) F.n_tuple (by decide +kernel)).w))) (pw_or1' (pt_eq ((pd_len (by exact rfl) F.n_len ((pd_var 4).w)).w) ((pd_int).w))))) (dss_one (ds_ret (pd_lst (da_nil)))) (dss_nil)) (dss_cons (ds_if (pt_not' (pt_tru ((pd_all (by exact rfl) F.n_all ((pd_comp (own := [("_law_part", 7)]) (is := [7]) (PDI.w (di_of (pd_var 4))) (blkOk_by (by show blkC ["_law_plan", "_law_deep", "_law_words", "_law_top", "_law_way", "_law_places", "_law_k", "_law_part"] (defScope (top 40)) _ _ = true; decide +kernel)) (by decide) (fun _ _ _ _ _ _ => dg_name (i := 7) (by exact rfl) (by exact Nat.le_of_ble_eq_true rfl) (by exact Or.inl rfl)) (fun _ _ _ _ _ _ => dts_nil) (fun _ _ _ _ _ _ => pd_isi "str" (by exact rfl) F.n_isinstance ((pd_var 7).w) (by exact rfl) F.n_str (by decide +kernel))).w)).w))) (dss_one (ds_ret (pd_lst (da_nil)))) (dss_nil)) (dss_cons (ds_comp (i := 5) (by exact rfl) (by exact Nat.le_of_ble_eq_true rfl) (by exact rfl) (by exact sw_true rfl rfl rfl (by decide +kernel)) (own := [("_law_part", 7)]) (is := [7]) (PDI.w (di_of (pd_var 4))) (blkOk_by (by show blkC ["_law_plan", "_law_deep", "_law_words", "_law_top", "_law_way", "_law_places", "_law_k", "_law_part"] (defScope (top 40)) _ _ = true; decide +kernel)) (by decide) (fun _ _ _ _ _ _ => dg_name (i := 7) (by exact rfl) (by exact Nat.le_of_ble_eq_true rfl) (by exact Or.inl rfl)) (fun _ _ _ _ _ _ => dts_nil) (fun _ _ _ _ _ _ => pd_call (k_law_place (w := w) (base := base) F) (by exact Nat.le_of_ble_eq_true rfl) (by exact rfl) (da_cons (pd_var 2) (da_cons (pd_var 7) (da_nil))))) (dss_cons (ds_if (pt_bo (pw_or' (pt_in ((pd_neg ((pd_int).w)).w) ((pd_var 5).w)) (pw_or1' (pt_bo (pw_and' (pt_ne ((pd_ix ((pd_var 5).w) ((pd_int).w)).w) ((pd_var 3).w)) (pw_and1' (pt_notin ((pd_ix ((pd_var 5).w) ((pd_int).w)).w) ((pd_ix ((pd_var 1).w) ((pd_var 3).w)).w)))))))) (dss_one (ds_ret (pd_lst (da_nil)))) (dss_nil)) (dss_cons (ds_for (di_range (by exact rfl) F.n_range (pd_sub ((pd_len (by exact rfl) F.n_len ((pd_var 5).w)).w) ((pd_int).w))) (dg_name (i := 6) (by exact rfl) (by exact Nat.le_of_ble_eq_true rfl) (by exact Or.inl rfl)) (dss_one (ds_if (pt_notin ((pd_lst (da_cons (pd_ix ((pd_var 5).w) ((pd_add ((pd_var 6).w) ((pd_int).w)).w)) (da_cons (pd_int) (da_nil)))).w) ((pd_ix ((pd_ix ((pd_var 0).w) ((pd_ix ((pd_var 5).w) ((pd_var 6).w)).w)).w) ((pd_int).w)).w)) (dss_one (ds_ret (pd_lst (da_nil)))) (dss_nil)))) (dss_one (ds_ret (pd_var 5)))))))
theorem k_law_read_way {w : World} {K : PySem.W.Frag} {mg : Str → Option Value} {base : Heap} (F : Fx K mg) : Fk PG w K mg base (gg F) "_law_read_way" d_law_read_way 2 := ⟨_, _, _, (f_law_read_way (w := w) (base := base) F).2.1, F.g__law_read_way, (f_law_read_way (w := w) (base := base) F).1, (f_law_read_way (w := w) (base := base) F).2.2⟩
theorem sc_law : FnScope ["_law_script", "_law_draws", "_law_style", "_law_size", "_law_plan", "_law_words", "_law_library", "_law_deep", "_law_top", "_law_way", "_law_low", "_law_counts_here", "_law_total", "_law_actual", "_law_told", "_law_places", "_law_k", "_law_root"] ["_law_script"] (defScope (top 43)) := ⟨rfl, rfl, rfl, by decide +kernel, rfl, by decide +kernel, by decide +kernel⟩
theorem f_law {w : World} {K : PySem.W.Frag} {mg : Str → Option Value} {base : Heap} (F : Fx K mg) : PySem.W.keepIn K (.ref (gAd "law" K)) = true ∧ FnOk PG w K mg base (L2.CX PG w) 9 (gAd "law" K) F.d_law.choose ["_law_script"] (dsp (gg F) d_law) ∧ Binds K F.d_law.choose ["_law_script"] [] := by
  have FD := F.d_law.choose_spec
  refine ⟨FD.kp, fn_dsp FD rfl sc_law (Nat.le_of_ble_eq_true rfl) (k := 8) (b := b_law) (N := ["_law_script", "_law_draws", "_law_style", "_law_size", "_law_plan", "_law_words", "_law_library", "_law_deep", "_law_top", "_law_way", "_law_low", "_law_counts_here", "_law_total", "_law_actual", "_law_told", "_law_places", "_law_k", "_law_root"]) (fun cdv A outer s H E Ze => ?_), FD.bindsN fun _ _ _ _ _ _ us hl => match us, hl with | [_], _ => rfl⟩
  exact dss_cons (ds_set (i := 1) (by exact rfl) (by exact Nat.le_of_ble_eq_true rfl) (by exact Or.inr rfl) (pd_call (k_law_row (w := w) (base := base) F) (by exact Nat.le_of_ble_eq_true rfl) (by exact rfl) (da_cons (pd_call (k_law_cell (w := w) (base := base) F) (by exact Nat.le_of_ble_eq_true rfl) (by exact rfl) (da_cons (pd_var 0) (da_cons (pd_int) (da_nil)))) (da_cons (pd_int) (da_cons (pd_lst (da_cons (pd_int) (da_cons (pd_int) (da_cons (pd_int) (da_cons (pd_int) (da_cons (pd_int) (da_cons (pd_int) (da_cons (pd_int) (da_cons (pd_int) (da_cons (pd_int) (da_cons (pd_int) (da_nil)))))))))))) (da_nil)))))) (dss_cons (ds_set (i := 2) (by exact rfl) (by exact Nat.le_of_ble_eq_true rfl) (by exact Or.inl rfl) (pd_ix ((pd_lst (da_cons (pd_int) (da_cons (pd_int) (da_cons (pd_int) (da_cons (pd_int) (da_nil)))))).w) ((pd_ix ((pd_var 1).w) ((pd_int).w)).w))) (dss_cons (ds_set (i := 3) (by exact rfl) (by exact Nat.le_of_ble_eq_true rfl) (by exact Or.inl rfl) (pd_add ((pd_int).w) ((pd_mod ((pd_ix ((pd_var 1).w) ((pd_int).w)).w) ((pd_ix ((pd_lst (da_cons (pd_int) (da_cons (pd_int) (da_cons (pd_int) (da_nil))))).w) ((pd_var 2).w)).w)).w))) (dss_cons (ds_set (i := 4) (by exact rfl) (by exact Nat.le_of_ble_eq_true rfl) (by exact Or.inl rfl) (pd_call (k_law_dense (w := w) (base := base) F) (by exact Nat.le_of_ble_eq_true rfl) (by exact rfl) (da_cons (pd_var 0) (da_cons (pd_int) (da_cons (pd_var 3) (da_cons (pd_int) (da_cons (pd_var 2) (da_nil)))))))) (dss_cons (ds_set (i := 5) (by exact rfl) (by exact Nat.le_of_ble_eq_true rfl) (by exact Or.inr rfl) (pd_comp (own := [("_law_k", 16)]) (is := [16]) (PDI.w (di_range (by exact rfl) F.n_range (pd_var 3))) (blkOk_by (by show blkC ["_law_script", "_law_draws", "_law_style", "_law_size", "_law_plan", "_law_words", "_law_library", "_law_deep", "_law_top", "_law_way", "_law_low", "_law_counts_here", "_law_total", "_law_actual", "_law_told", "_law_places", "_law_k", "_law_root"] (defScope (top 43)) _ _ = true; decide +kernel)) (by decide) (fun _ _ _ _ _ _ => dg_name (i := 16) (by exact rfl) (by exact Nat.le_of_ble_eq_true rfl) (by exact Or.inl rfl)) (fun _ _ _ _ _ _ => dts_nil) (fun _ _ _ _ _ _ => pd_call (k_law_word (w := w) (base := base) F) (by exact Nat.le_of_ble_eq_true rfl) (by exact rfl) (da_cons (pd_ix ((pd_var 1).w) ((pd_int).w)) (da_cons (pd_var 16) (da_nil)))))) (dss_cons (ds_set (i := 6) (by exact rfl) (by exact Nat.le_of_ble_eq_true rfl) (by exact Or.inl rfl) (pd_make (c_Library_init (w := w) (base := base) F) (by exact Nat.le_of_ble_eq_true rfl) (by exact rfl) (da_cons (pd_call (k_law_draftsD (w := w) (base := base) F) (by exact Nat.le_of_ble_eq_true rfl) (by exact rfl) (da_cons (pd_var 4) (da_cons (pd_var 5) (da_cons (pd_lst (da_nil)) (da_nil))))) (da_nil)))) (dss_cons (ds_set (i := 7) (by exact rfl) (by exact Nat.le_of_ble_eq_true rfl) (by exact Or.inl rfl) (pd_call (k_law_shared (w := w) (base := base) F) (by exact Nat.le_of_ble_eq_true rfl) (by exact rfl) (da_cons (pd_var 4) (da_nil)))) (dss_cons (ds_set (i := 8) (by exact rfl) (by exact Nat.le_of_ble_eq_true rfl) (by exact Or.inl rfl) (pd_max (by exact rfl) F.n_max ((pd_int).w) ((pd_sub ((pd_sub ((pd_var 3).w) ((pd_int).w)).w) ((pd_ix ((pd_var 1).w) ((pd_int).w)).w)).w))) (dss_cons (ds_set (i := 9) (by exact rfl) (by exact Nat.le_of_ble_eq_true rfl) (by exact Or.inl rfl) (pd_call (k_law_walk (w := w) (base := base) F) (by exact Nat.le_of_ble_eq_true rfl) (by exact rfl) (da_cons (pd_var 4) (da_cons (pd_tup (da_cons (pd_var 8) (da_nil))) (da_cons (pd_slice ((pd_var 1).w) (px_some ((pd_int).w)) (px_some ((pd_add ((pd_int).w) ((pd_ix ((pd_var 1).w) ((pd_int).w)).w)).w))) (da_nil)))))) (dss_cons (ds_set (i := 10) (by exact rfl) (by exact Nat.le_of_ble_eq_true rfl) (by exact Or.inl rfl) (pd_mod ((pd_ix ((pd_var 1).w) ((pd_int).w)).w) ((pd_var 3).w))) (dss_cons (ds_if (pt_eq ((pd_ix ((pd_var 1).w) ((pd_int).w)).w) ((pd_int).w)) (dss_one (ds_set (i := 10) (by exact rfl) (by exact Nat.le_of_ble_eq_true rfl) (by exact Or.inl rfl) (pd_mod ((pd_ix ((pd_var 1).w) ((pd_int).w)).w) ((pd_int).w)))) (dss_nil)) (dss_cons (ds_set (i := 11) (by exact rfl) (by exact Nat.le_of_ble_eq_true rfl) (by exact Or.inr rfl) (pd_call (k_law_counts (w := w) (base := base) F) (by exact Nat.le_of_ble_eq_true rfl) (by exact rfl) (da_cons (pd_var 4) (da_cons (pd_var 10) (da_nil))))) (dss_cons (ds_set (i := 12) (by exact rfl) (by exact Nat.le_of_ble_eq_true rfl) (by exact Or.inl rfl) (pd_add ((pd_ix ((pd_var 11).w) ((pd_ix ((pd_var 9).w) ((pd_neg ((pd_int).w)).w)).w)).w) ((pd_sum (by exact rfl) F.n_sum ((pd_comp (own := [("_law_root", 17)]) (is := [17]) (PDI.w (di_of (pd_ix ((pd_var 7).w) ((pd_ix ((pd_var 9).w) ((pd_neg ((pd_int).w)).w)).w)))) (blkOk_by (by show blkC ["_law_script", "_law_draws", "_law_style", "_law_size", "_law_plan", "_law_words", "_law_library", "_law_deep", "_law_top", "_law_way", "_law_low", "_law_counts_here", "_law_total", "_law_actual", "_law_told", "_law_places", "_law_k", "_law_root"] (defScope (top 43)) _ _ = true; decide +kernel)) (by decide) (fun _ _ _ _ _ _ => dg_name (i := 17) (by exact rfl) (by exact Nat.le_of_ble_eq_true rfl) (by exact Or.inl rfl)) (fun _ _ _ _ _ _ => dts_nil) (fun _ _ _ _ _ _ => pd_ix ((pd_var 11).w) ((pd_var 17).w))).w)).w))) (dss_cons (ds_set (i := 13) (by exact rfl) (by exact Nat.le_of_ble_eq_true rfl) (by exact Or.inl rfl) (pd_call (k_law_asked (w := w) (base := base) F) (by exact Nat.le_of_ble_eq_true rfl) (by exact rfl) (da_cons (pd_var 6) (da_cons (pd_tuple (by exact rfl) F.n_tuple ((pd_comp (own := [("_law_k", 16)]) (is := [16]) (PDI.w (di_of (pd_var 9))) (blkOk_by (by show blkC ["_law_script", "_law_draws", "_law_style", "_law_size", "_law_plan", "_law_words", "_law_library", "_law_deep", "_law_top", "_law_way", "_law_low", "_law_counts_here", "_law_total", "_law_actual", "_law_told", "_law_places", "_law_k", "_law_root"] (defScope (top 43)) _ _ = true; decide +kernel)) (by decide) (fun _ _ _ _ _ _ => dg_name (i := 16) (by exact rfl) (by exact Nat.le_of_ble_eq_true rfl) (by exact Or.inl rfl)) (fun _ _ _ _ _ _ => dts_nil) (fun _ _ _ _ _ _ => pd_ix ((pd_var 5).w) ((pd_var 16).w))).w)) (da_cons (pd_ix ((pd_var 5).w) ((pd_var 10).w)) (da_nil)))))) (dss_cons (ds_if (pt_eq ((pd_var 12).w) ((pd_int).w)) (dss_one (ds_ret (pd_eq ((pd_var 13).w) ((pd_lst (da_cons (pd_str) (da_cons (pd_ix ((pd_var 5).w) ((pd_var 10).w)) (da_nil)))).w)))) (dss_nil)) (dss_cons (ds_if (pt_bo (pw_and' (pt_gt ((pd_var 12).w) ((pd_int).w)) (pw_and1' (pt_bo (pw_or' (pt_ne ((pd_len (by exact rfl) F.n_len ((pd_var 13).w)).w) ((pd_int).w)) (pw_or' (pt_ne ((pd_ix ((pd_var 13).w) ((pd_int).w)).w) ((pd_ix ((pd_var 5).w) ((pd_var 10).w)).w)) (pw_or1' (pt_eq ((pd_ix ((pd_var 13).w) ((pd_int).w)).w) ((pd_ix ((pd_var 13).w) ((pd_int).w)).w))))))))) (dss_one (ds_ret (pd_bl))) (dss_nil)) (dss_cons (ds_if (pt_bo (pw_and' (pt_eq ((pd_var 12).w) ((pd_int).w)) (pw_and1' (pt_ne ((pd_len (by exact rfl) F.n_len ((pd_var 13).w)).w) ((pd_int).w))))) (dss_one (ds_ret (pd_bl))) (dss_nil)) (dss_cons (ds_for (di_of (pd_slice ((pd_var 13).w) (px_none) (px_some ((pd_int).w)))) (dg_name (i := 14) (by exact rfl) (by exact Nat.le_of_ble_eq_true rfl) (by exact Or.inl rfl)) (dss_cons (ds_set (i := 15) (by exact rfl) (by exact Nat.le_of_ble_eq_true rfl) (by exact Or.inl rfl) (pd_call (k_law_read_way (w := w) (base := base) F) (by exact Nat.le_of_ble_eq_true rfl) (by exact rfl) (da_cons (pd_var 4) (da_cons (pd_var 7) (da_cons (pd_var 5) (da_cons (pd_var 8) (da_cons (pd_var 14) (da_nil)))))))) (dss_cons (ds_if (pt_bo (pw_or' (pt_eq ((pd_var 15).w) ((pd_lst (da_nil)).w)) (pw_or1' (pt_ne ((pd_ix ((pd_var 15).w) ((pd_neg ((pd_int).w)).w)).w) ((pd_var 10).w))))) (dss_one (ds_ret (pd_bl))) (dss_nil)) (dss_one (ds_if (pt_bo (pw_and' (pt_notin ((pd_ix ((pd_var 15).w) ((pd_int).w)).w) ((pd_ix ((pd_var 7).w) ((pd_ix ((pd_var 9).w) ((pd_neg ((pd_int).w)).w)).w)).w)) (pw_and1' (pt_ne ((pd_tuple (by exact rfl) F.n_tuple ((pd_slice ((pd_var 15).w) (px_none) (px_some ((pd_len (by exact rfl) F.n_len ((pd_var 9).w)).w))).w)).w) ((pd_var 9).w))))) (dss_one (ds_ret (pd_bl))) (dss_nil)))))) (dss_one (ds_ret (pd_bl))))))))))))))))))))
end Tw

set_option maxHeartbeats 0
namespace Tw
open PySem PySem.Spec PyProof.Rows L2
theorem fx_of {K : PySem.W.Frag} {hp : Heap} {mg : Str → Option Value} (X : K.In hp) (G : hp.Ns mainGlobals mg) (c0 : SaysX fb fa fn fx K) (c : SaysT fb fa fn K := c0.base) : Fx K mg where
  n_abs := He.free_ok X G (c.fact 0)
  n_all := He.free_ok X G (c.fact 1)
  n_int := He.free_ok X G (c.fact 2)
  n_isinstance := He.free_ok X G (c.fact 3)
  n_iter := He.free_ok X G (c.fact 4)
  n_len := He.free_ok X G (c.fact 5)
  n_list := He.free_ok X G (c.fact 6)
  n_max := He.free_ok X G (c.fact 7)
  n_range := He.free_ok X G (c.fact 8)
  n_str := He.free_ok X G (c.fact 9)
  n_sum := He.free_ok X G (c.fact 10)
  n_super := He.free_ok X G (c.fact 11)
  n_tuple := He.free_ok X G (c.fact 12)
  c_DIGITS := He.str_ok X G (c.fact 13)
  c_LETTERS := He.str_ok X G (c.fact 14)
  c_LONGEST := He.int_ok X G (c.fact 15)
  g_Ambiguous := He.glo_ok X G (c.fact 16)
  g_Base := He.glo_ok X G (c.fact 17)
  g_Declaring := He.glo_ok X G (c.fact 18)
  g_Draft := He.glo_ok X G (c.fact 19)
  g_DuplicateBase := He.glo_ok X G (c.fact 20)
  g_DuplicateClass := He.glo_ok X G (c.fact 21)
  g_DuplicateName := He.glo_ok X G (c.fact 22)
  g_InvalidWord := He.glo_ok X G (c.fact 23)
  g_Kind := He.glo_ok X G (c.fact 24)
  g_Library := He.glo_ok X G (c.fact 25)
  g_NoCopy := He.glo_ok X G (c.fact 26)
  g_Titled := He.glo_ok X G (c.fact 27)
  g_TwoWays := He.glo_ok X G (c.fact 28)
  g_UnknownClass := He.glo_ok X G (c.fact 29)
  g__law_asked := He.glo_ok X G (c.fact 30)
  g__law_cell := He.glo_ok X G (c.fact 31)
  g__law_counts := He.glo_ok X G (c.fact 32)
  g__law_dense := He.glo_ok X G (c.fact 33)
  g__law_drafts := He.glo_ok X G (c.fact 34)
  g__law_place := He.glo_ok X G (c.fact 35)
  g__law_read_way := He.glo_ok X G (c.fact 36)
  g__law_row := He.glo_ok X G (c.fact 37)
  g__law_shared := He.glo_ok X G (c.fact 38)
  g__law_walk := He.glo_ok X G (c.fact 39)
  g__law_word := He.glo_ok X G (c.fact 40)
  g_convert := He.glo_ok X G (c.fact 41)
  g_decided := He.glo_ok X G (c.fact 42)
  g_few_ways := He.glo_ok X G (c.fact 43)
  g_law := He.glo_ok X G (c.fact 44)
  cl_Base := He.cls_ok (c.fact 45)
  na_Base_title := He.noat_ok (c.fact 46)
  na_Base_is_shared := He.noat_ok (c.fact 47)
  cl_Draft := He.cls_ok (c.fact 48)
  na_Draft_title := He.noat_ok (c.fact 49)
  na_Draft_names := He.noat_ok (c.fact 50)
  na_Draft_statics := He.noat_ok (c.fact 51)
  na_Draft_bases := He.noat_ok (c.fact 52)
  cl_Kind := He.cls_ok (c.fact 53)
  na_Kind_title := He.noat_ok (c.fact 54)
  na_Kind_names := He.noat_ok (c.fact 55)
  na_Kind_statics := He.noat_ok (c.fact 56)
  na_Kind_bases := He.noat_ok (c.fact 57)
  na_Kind_above := He.noat_ok (c.fact 58)
  na_Kind_shared_bases := He.noat_ok (c.fact 59)
  cl_Library := He.cls_ok (c.fact 60)
  na_Library_kinds := He.noat_ok (c.fact 61)
  na_Library_places := He.noat_ok (c.fact 62)
  na_Library_names := He.noat_ok (c.fact 63)
  mk_Base := He.mkr_ok (c.fact 64)
  mk_Draft := He.mkr_ok (c.fact 65)
  mk_Kind := He.mkr_ok (c.fact 66)
  mk_Library := He.mkr_ok (c.fact 67)
  sm_Titled_is_word := smB_ok (c.own 0)
  pm_Declaring_init := pmB_ok (c.own 1)
  pm_Titled_init := pmB_ok (c.own 2)
  me_Library_contains := He.meth_ok (c.fact 68)
  me_Library_getitem := He.meth_ok (c.fact 69)
  me_Library_iter := He.meth_ok (c.fact 70)
  me_Library_admit := He.meth_ok (c.fact 71)
  xcs := xcsB_ok (c.own 3)
  d_law_row := c.def_ 0
  d_law_cell := c.def_ 1
  d_law_dense := c.def_ 2
  d_law_word := c.def_ 3
  d_Titled_is_word := c.def_ 4
  d_Titled_init := c.def_ 5
  d_Declaring_init := c.def_ 6
  d_Kind_init := c.def_ 7
  d_Library_admit := c.def_ 8
  d_Library_init := c.def_ 9
  d_Base_init := c.def_ 10
  d_Draft_init := c.def_ 11
  d_law_draftsD := c.def_ 12
  d_law_shared := c.def_ 13
  d_law_walk := c.def_ 14
  d_law_counts := c.def_ 15
  d_Library_contains := c.def_ 16
  d_Library_getitem := c.def_ 17
  d_Library_iter := c.def_ 18
  d_few_ways := c.def_ 19
  d_decided := c.def_ 20
  d_convert := c.def_ 21
  d_law_asked := c.def_ 22
  d_law_place := c.def_ 23
  d_law_read_way := c.def_ 24
  d_law := c.def_ 25
  xc_Ambiguous := xcB_ok (c.own 4) (c0.init 0)
  ox_Ambiguous := oexB_ok (c.own 5)
  xn_Ambiguous_name := of_decide_eq_true (c.own 6)
  xn_Ambiguous_one := of_decide_eq_true (c.own 7)
  xn_Ambiguous_other := of_decide_eq_true (c.own 8)
  xc_DuplicateBase := xcB_ok (c.own 9) (c0.init 1)
  ox_DuplicateBase := oexB_ok (c.own 10)
  xn_DuplicateBase_title := of_decide_eq_true (c.own 11)
  xc_DuplicateClass := xcB_ok (c.own 12) (c0.init 2)
  ox_DuplicateClass := oexB_ok (c.own 13)
  xn_DuplicateClass_title := of_decide_eq_true (c.own 14)
  xc_DuplicateName := xcB_ok (c.own 15) (c0.init 3)
  ox_DuplicateName := oexB_ok (c.own 16)
  xn_DuplicateName_name := of_decide_eq_true (c.own 17)
  xc_InvalidWord := xcB_ok (c.own 18) (c0.init 4)
  ox_InvalidWord := oexB_ok (c.own 19)
  xn_InvalidWord_word := of_decide_eq_true (c.own 20)
  xc_NoCopy := xcB_ok (c.own 21) (c0.init 5)
  ox_NoCopy := oexB_ok (c.own 22)
  xn_NoCopy_title := of_decide_eq_true (c.own 23)
  xc_TwoWays := xcB_ok (c.own 24) (c0.init 6)
  ox_TwoWays := oexB_ok (c.own 25)
  xn_TwoWays_one := of_decide_eq_true (c.own 26)
  xn_TwoWays_other := of_decide_eq_true (c.own 27)
  xc_UnknownClass := xcB_ok (c.own 28) (c0.init 7)
  ox_UnknownClass := oexB_ok (c.own 29)
  xn_UnknownClass_title := of_decide_eq_true (c.own 30)
theorem law_sp {K : PySem.W.Frag} {mg : Str → Option Value} (F : Fx K mg) (ok : ∀ ns : List Int, ns.length ≤ 63 → d_law [.scr ns] = .ok (.bl true)) (H : Hp) (a : Addr) (ns : List Int) (hl : ns.length ≤ 63) (hS : SqL K H a (ns.map V.int)) : dsp (gg F) d_law [.ref a] H (fun v _ => v = .bl true) fun _ _ _ => False := by
  refine ⟨fun _ => False, [.scr ns], fun a z => z.elim, RepL.one ⟨a, rfl, hS.imp (fun r => ⟨fun z => z, r⟩) id⟩, ?_⟩
  rw [ok ns hl]
  exact fun v H' _ r => r
end Tw

namespace Tw
open PySem
/-- a loop that runs through: what holds ahead of each turn -/
theorem forL_inv {g : DG} {cl : List Nat} {b : DS} (I : Nat → DEnv → Prop) : ∀ (l : List D) (n : Nat) (ρ : DEnv), I n ρ →
    (∀ i d ρ, l[i]? = some d → I (n + i) ρ → ∃ ρ', ((g d ρ).bind b = .ok (.nx ρ') ∨ (g d ρ).bind b = .ok (.ct ρ')) ∧ I (n + i + 1) (clrD cl ρ')) →
    ∃ ρ', forL g cl b l ρ = .ok (.nx ρ') ∧ I (n + l.length) ρ'
  | [], n, ρ, h, _ => ⟨ρ, rfl, h⟩
  | d :: l, n, ρ, h, hs => by
    obtain ⟨ρ1, e, h1⟩ := hs 0 d ρ rfl h
    obtain ⟨ρ2, e2, h2⟩ := forL_inv I l (n + 1) (clrD cl ρ1) h1 fun i d ρ hd hI => by
      have := hs (i + 1) d ρ (by simpa using hd) (by rw [show n + (i + 1) = n + 1 + i by omega]; exact hI)
      rwa [show n + (i + 1) + 1 = n + 1 + i + 1 by omega] at this
    refine ⟨ρ2, ?_, by rw [List.length_cons, show n + (l.length + 1) = n + 1 + l.length by omega]; exact h2⟩
    rcases e with e | e
    · simp only [forL, e]; exact e2
    · simp only [forL, e]; exact e2
theorem forL_ok {g : DG} {cl : List Nat} {b : DS} (I : Nat → DEnv → Prop) (l : List D) (ρ : DEnv) (h : I 0 ρ)
    (hs : ∀ i d ρ, l[i]? = some d → I i ρ → ∃ ρ', ((g d ρ).bind b = .ok (.nx ρ') ∨ (g d ρ).bind b = .ok (.ct ρ')) ∧ I (i + 1) (clrD cl ρ')) :
    ∃ ρ', forL g cl b l ρ = .ok (.nx ρ') ∧ I l.length ρ' := by
  obtain ⟨ρ', e, k⟩ := forL_inv I l 0 ρ h fun i d ρ hd hI => by
    rw [Nat.zero_add] at hI ⊢
    exact hs i d ρ hd hI
  rw [Nat.zero_add] at k
  exact ⟨ρ', e, k⟩
/-- the state ahead of each turn, told -/
theorem forL_st {g : DG} {cl : List Nat} {b : DS} (s : Nat → DEnv) (l : List D) (hs : ∀ i d, l[i]? = some d → ∃ ρ', ((g d (s i)).bind b = .ok (.nx ρ') ∨ (g d (s i)).bind b = .ok (.ct ρ')) ∧ clrD cl ρ' = s (i + 1)) :
    forL g cl b l (s 0) = .ok (.nx (s l.length)) := by
  obtain ⟨ρ', e, k⟩ := forL_ok (g := g) (cl := cl) (b := b) (fun i ρ => ρ = s i) l (s 0) rfl fun i d ρ hd hI => by
    subst hI
    exact hs i d hd
  rw [e, k]
theorem any_deq_str (s : Str) (l : List Str) : ((l.map D.str).any fun y => deq y (.str s)) = decide (s ∈ l) := by
  induction l with
  | nil => rfl
  | cons a l ih =>
    simp only [List.map_cons, List.any_cons, ih, deq, List.mem_cons, Bool.decide_or]
    congr 1
    by_cases h : s = a
    · subst h; simp
    · have h' : ¬ a = s := fun e => h e.symm
      simp [h, h']
theorem all_flat_str (l : List Str) : (l.map D.str).all flatD = true := by
  induction l with
  | nil => rfl
  | cons a l ih => simp [flatD]
theorem inD_tup_str (s : Str) (l : List Str) : inD (.str s) (.tup (l.map .str)) = some (decide (s ∈ l)) := by
  unfold inD
  simp only [show flatD (.str s) = true from rfl, all_flat_str, Bool.and_self, if_true, any_deq_str]
theorem inD_lst_str (s : Str) (l : List Str) : inD (.str s) (.lst (l.map .str)) = some (decide (s ∈ l)) := by
  unfold inD
  simp only [show flatD (.str s) = true from rfl, all_flat_str, Bool.and_self, if_true, any_deq_str]
theorem atD_pos {α : Type} {l : List α} {i : Int} (h : 0 ≤ i) : atD l i = l[i.toNat]? := by
  unfold atD
  rw [if_pos h]
theorem cutD_to {α : Type} (l : List α) (i : Int) (h : 0 ≤ i) : cutD l none (some i) = l.take i.toNat := by
  unfold cutD sIxD
  have h' : ¬ i < 0 := by omega
  simp only [h', if_false, List.drop_zero, Nat.sub_zero]
  by_cases k : i.toNat ≤ l.length
  · rw [Nat.min_eq_left k]
  · rw [Nat.min_eq_right (by omega), List.take_of_length_le (Nat.le_refl _), List.take_of_length_le (by omega)]
theorem rangeD_get {n : Int} {i : Nat} {d : D} (h : (rangeD n)[i]? = some d) : d = .int i ∧ i < n.toNat := by
  unfold rangeD at h
  rw [List.getElem?_map] at h
  obtain ⟨j, e, rfl⟩ := Option.map_eq_some_iff.mp h
  have hi : i < n.toNat := by
    have := (List.getElem?_eq_some_iff.mp e).1
    rwa [List.length_range] at this
  rw [List.getElem?_range hi] at e
  cases e
  exact ⟨rfl, hi⟩
theorem rangeD_len {n : Int} : (rangeD n).length = n.toNat := by unfold rangeD; rw [List.length_map, List.length_range]
theorem oMod_ok {i j : Int} (h : 0 < j) : oMod (.int i) (.int j) = some (.int (i % j)) := by
  unfold oMod
  exact if_pos h
theorem oFdiv_ok {i j : Int} (h : 0 < j) (k : j < 1073741824) : oFdiv (.int i) (.int j) = some (.int (i / j)) := by
  unfold oFdiv
  exact if_pos ⟨h, k⟩
theorem oMul_r {i j : Int} (h : w64 j) : oMul (.int i) (.int j) = some (.int (i * j)) := by
  unfold oMul
  exact if_pos (.inr h)
theorem oMul_l {i j : Int} (h : w64 i) : oMul (.int i) (.int j) = some (.int (i * j)) := by
  unfold oMul
  exact if_pos (.inl h)
theorem sSeq_nx {a b : DS} {ρ ρ1 : DEnv} (h : a ρ = .ok (.nx ρ1)) : sSeq a b ρ = b ρ1 := by
  unfold sSeq
  rw [h]
theorem sSeq_rt {a b : DS} {ρ ρ1 : DEnv} {d : D} (h : a ρ = .ok (.rt d ρ1)) : sSeq a b ρ = .ok (.rt d ρ1) := by
  unfold sSeq
  rw [h]
theorem defD_rt {n p : Nat} {b : DS} {ds : List D} {d : D} {ρ : DEnv} (hl : ds.length = p) (h : b (envD n ds) = .ok (.rt d ρ)) : defD n p b ds = .ok d := by
  unfold defD
  rw [if_pos hl, h]
theorem sIf_t {c : DT} {a b : DS} {ρ : DEnv} (h : c ρ = .ok true) : sIf c a b ρ = a ρ := by
  unfold sIf
  rw [h]
  rfl
theorem sIf_f {c : DT} {a b : DS} {ρ : DEnv} (h : c ρ = .ok false) : sIf c a b ρ = b ρ := by
  unfold sIf
  rw [h]
  rfl
theorem sFor_ok {it : DI} {g : DG} {cl : List Nat} {b : DS} {ρ : DEnv} {l : List D} (h : it ρ = .ok l) : sFor it g cl b ρ = forL g cl b l (clrD cl ρ) := by
  unfold sFor
  rw [h]
  rfl
theorem sSet_ok {i : Nat} {e : DE} {ρ ρ1 : DEnv} {d : D} (h : e ρ = .ok d) (k : setV i d ρ = .ok ρ1) : sSet i e ρ = .ok (.nx ρ1) := by
  unfold sSet
  rw [h, R.st_ok, k]
  rfl
theorem sOwn_ok {i : Nat} {e : DE} {ρ ρ1 : DEnv} {d : D} (h : e ρ = .ok d) (k : setO i d ρ = .ok ρ1) : sOwn i e ρ = .ok (.nx ρ1) := by
  unfold sOwn
  rw [h, R.st_ok, k]
  rfl
theorem sRet_ok {e : DE} {ρ : DEnv} {d : D} (h : e ρ = .ok d) : sRet e ρ = .ok (.rt d ρ) := by
  unfold sRet
  rw [h]
  rfl
theorem e1_ok {f : D → Option D} {a : DE} {ρ : DEnv} {x y : D} (h : a ρ = .ok x) (k : f x = some y) : e1 f a ρ = .ok y := by
  unfold e1
  rw [h, R.bind_ok, k]
  rfl
theorem e2_ok {f : D → D → Option D} {a b : DE} {ρ : DEnv} {x y z : D} (h : a ρ = .ok x) (h2 : b ρ = .ok y) (k : f x y = some z) : e2 f a b ρ = .ok z := by
  unfold e2
  rw [h, R.bind_ok, h2, R.bind_ok, k]
  rfl
theorem tVal_ok {a : DE} {ρ : DEnv} {b : Bool} (h : a ρ = .ok (.bl b)) : tVal a ρ = .ok b := by
  unfold tVal
  rw [h]
  rfl
theorem iRange_ok {a : DE} {ρ : DEnv} {n : Int} (h : a ρ = .ok (.int n)) (hn : rngOk n) : iRange a ρ = .ok (rangeD n) := by
  unfold iRange
  rw [h]
  exact rngR_ok hn
theorem iOf_ok {a : DE} {ρ : DEnv} {d : D} {l : List D} (h : a ρ = .ok d) (k : iterD d = some l) : iOf a ρ = .ok l := by
  unfold iOf
  rw [h, R.bind_ok, k]
  rfl
end Tw

set_option maxHeartbeats 2000000
namespace Tw
open PySem
theorem law_cell_ok (ns : List Int) (k : Int) (hk : 0 ≤ k) : ∃ c : Int, d_law_cell [.scr ns, .int k] = .ok (.int c) := by
  by_cases h : k < (ns.length : Int)
  · have hn : k.toNat < ns.length := by omega
    refine ⟨ns[k.toNat], ?_⟩
    simp [d_law_cell, defD, envD, b_law_cell, sSeq, sIf, tVal, e1, e2, eVar, eC, oLen, oLt, h, sRet, oIx, atD_pos hk, List.getElem?_eq_getElem hn, oInt]
  · refine ⟨(ns.sum * 31 + k * 1009 + ns.length) % 1000003, ?_⟩
    simp [d_law_cell, defD, envD, b_law_cell, sSeq, sIf, tVal, e1, e2, eVar, eC, oLen, oLt, h, sRet, sNext, oSum, oMul_r (show w64 31 by decide), oMul_r (show w64 1009 by decide), oAdd, oInt, oMod]
/-- the entries stand below their limits -/
def Below (row ls : List Int) : Prop := ∀ (i : Nat) (x l : Int), row[i]? = some x → ls[i]? = some l → 0 ≤ x ∧ x < l
theorem Below.snoc {row ls : List Int} {x l : Int} (h : Below row ls) (hl : ls[row.length]? = some l) (hx : 0 ≤ x ∧ x < l) : Below (row ++ [x]) ls := fun i y m e1 e2 => by
  by_cases hi : i < row.length
  · rw [List.getElem?_append_left hi] at e1
    exact h i y m e1 e2
  · rw [List.getElem?_append_right (by omega)] at e1
    have hi2 : i - row.length = 0 := by
      rcases Nat.eq_zero_or_pos (i - row.length) with z | z
      · exact z
      · rw [List.getElem?_eq_none (by simp; omega)] at e1
        cases e1
    have : i = row.length := by omega
    subst this
    rw [Nat.sub_self] at e1
    simp at e1
    subst e1
    rw [hl] at e2
    cases e2
    exact hx
theorem map_get {l : List Int} {i : Nat} {d : D} (h : (l.map D.int)[i]? = some d) : ∃ x, l[i]? = some x ∧ d = .int x := by
  rw [List.getElem?_map] at h
  obtain ⟨x, e, rfl⟩ := Option.map_eq_some_iff.mp h
  exact ⟨x, e, rfl⟩
theorem pow1018 : oPow (.int 10) (.int 18) = some (.int 1000000000000000000) := by
  show (if (0 : Int) ≤ 18 ∧ (18 : Int) ≤ 1000000 ∧ (10 : Int).natAbs < 2 ^ 64 then some (D.int (10 ^ (18 : Int).toNat)) else none) = _
  rw [if_pos (by decide)]
  rfl
theorem row_step2 (c s r l : Int) (ls acc : List D) (n : Int) (A B : Int) (l1 : 0 < l) (hlen : acc.length < lineD)
  (hA : (r * 48271 + s * 7919 + n * 69621 + 11) % 2147483647 = A) (hA1 : w64 A) (hB2 : (A * (A / 1024 + 16807) + r + n) % 2147483399 = B)
  (qa : oIx (.lst ls) (.int n) = some (.int l)) :
  (gVar 6 (.int n) [some (.val (.int c)), some (.val (.int s)), some (.val (.lst ls)), some (.own (.lst acc)), some (.val (.int r)), none, none, none]).bind b_law_row_2 =
   .ok (.nx [some (.val (.int c)), some (.val (.int s)), some (.val (.lst ls)), some (.own (.lst (acc ++ [.int (B / 11 % l)]))), some (.val (.int r)), none, some (.val (.int n)), some (.val (.int B))]) := by
  have q1 : ∀ x, oMod (.int x) (.int 2147483647) = some (.int (x % 2147483647)) := fun x => oMod_ok (by decide)
  have q2 : ∀ x, oMod (.int x) (.int 2147483399) = some (.int (x % 2147483399)) := fun x => oMod_ok (by decide)
  have q3 : ∀ x, oFdiv (.int x) (.int 1024) = some (.int (x / 1024)) := fun x => oFdiv_ok (by decide) (by decide)
  have q4 : ∀ x, oFdiv (.int x) (.int 11) = some (.int (x / 11)) := fun x => oFdiv_ok (by decide) (by decide)
  have q5 : ∀ x, oMul (.int x) (.int 48271) = some (.int (x * 48271)) := fun x => oMul_r (by decide)
  have q6 : ∀ x, oMul (.int x) (.int 7919) = some (.int (x * 7919)) := fun x => oMul_r (by decide)
  have q7 : ∀ x, oMul (.int x) (.int 69621) = some (.int (x * 69621)) := fun x => oMul_r (by decide)
  have q8 : ∀ x, oMul (.int A) (.int x) = some (.int (A * x)) := fun x => oMul_l hA1
  have q9 : ∀ x, oMod (.int x) (.int l) = some (.int (x % l)) := fun x => oMod_ok l1
  simp only [gVar, setV, b_law_row_2, sSeq, sApp, sSet, e1, e2, eVar, eC, oInt, oAdd, List.getElem?_cons_succ, List.getElem?_cons_zero, List.set_cons_succ, List.set_cons_zero, R.bind_ok, R.st_ok, R.of_some, q1, q2, q3, q4, q5, q6, q7, hA, q8, hB2, q9, qa, hlen, if_true]
theorem row_step (c s r l : Int) (ls acc : List D) (n : Int) (l1 : 0 < l) (hlen : acc.length < lineD) (qa : oIx (.lst ls) (.int n) = some (.int l)) : ∃ v B : Int, (0 ≤ v ∧ v < l) ∧
  (gVar 6 (.int n) [some (.val (.int c)), some (.val (.int s)), some (.val (.lst ls)), some (.own (.lst acc)), some (.val (.int r)), none, none, none]).bind b_law_row_2 =
   .ok (.nx [some (.val (.int c)), some (.val (.int s)), some (.val (.lst ls)), some (.own (.lst (acc ++ [.int v]))), some (.val (.int r)), none, some (.val (.int n)), some (.val (.int B))]) := by
  have k1 : ∀ x : Int, w64 (x % 2147483647) := fun x => by
    have m1 : 0 ≤ x % 2147483647 ∧ x % 2147483647 < 2147483647 := ⟨Int.emod_nonneg _ (by decide), Int.emod_lt_of_pos _ (by decide)⟩
    exact w64_of (by omega) (by omega)
  exact ⟨_, _, ⟨Int.emod_nonneg _ (Int.ne_of_gt l1), Int.emod_lt_of_pos _ l1⟩, row_step2 c s r l ls acc n _ _ l1 hlen rfl (k1 _) rfl qa⟩
theorem law_row_ok (c s : Int) (ls : List Int) (h : ∀ l ∈ ls, 0 < l ∧ l < 1073741824) (hl : ls.length < 1000000) :
    ∃ row : List Int, d_law_row [.int c, .int s, .lst (ls.map .int)] = .ok (.lst (row.map .int)) ∧ row.length = ls.length ∧ Below row ls := by
  have hb : ∀ {i : Nat} {l : Int}, ls[i]? = some l → 0 < l ∧ l < 1073741824 := fun e => h _ (List.mem_of_getElem? e)
  have ab : ∃ r : Int, oAbs (.int c) = some (.int r) := ⟨_, rfl⟩
  obtain ⟨r, hr⟩ := ab
  by_cases hbig : (1000000000000000000 : Int) ≤ r
  · have loop := forL_ok (g := gVar 5) (cl := [5]) (b := b_law_row_1) (fun i ρ => ∃ (acc : List Int) (q : Int), ρ = [some (.val (.int c)), some (.val (.int s)), some (.val (.lst (ls.map .int))), some (.own (.lst (acc.map .int))), some (.val (.int q)), none, none, none] ∧ acc.length = i ∧ Below acc ls)
      (ls.map .int) [some (.val (.int c)), some (.val (.int s)), some (.val (.lst (ls.map .int))), some (.own (.lst [])), some (.val (.int r)), none, none, none] ⟨[], r, rfl, rfl, fun i x l e => by simp at e⟩ (fun i d ρ hd hI => by
        obtain ⟨acc, q, rfl, rfl, hB⟩ := hI
        obtain ⟨l, e, rfl⟩ := map_get hd
        obtain ⟨l1, l2⟩ := hb e
        have hlen : acc.length < lineD := by
          have := (List.getElem?_eq_some_iff.mp e).1
          show acc.length < 16777216
          omega
        refine ⟨[some (.val (.int c)), some (.val (.int s)), some (.val (.lst (ls.map .int))), some (.own (.lst ((acc ++ [q % l]).map .int))), some (.val (.int (q / l))), some (.val (.int l)), none, none], .inl ?_, acc ++ [q % l], q / l, rfl, by simp, hB.snoc e ⟨Int.emod_nonneg _ (by omega), Int.emod_lt_of_pos _ l1⟩⟩
        simp [gVar, setV, b_law_row_1, sSeq, sApp, sSet, e1, e2, eVar, oMod, oInt, oFdiv, l1, l2, hlen])
    obtain ⟨ρ, e, acc, q, rfl, hlen, hB⟩ := loop
    rw [List.length_map] at hlen
    refine ⟨acc, ?_, hlen, hB⟩
    simp [d_law_row, defD, envD, b_law_row, sSeq, sOwn, setO, eLst, aNil, sSet, setV, e1, e2, eVar, eC, oInt, hr, pow1018, oGe, sIf, tVal, hbig, sFor, iOf, iterD, clrD, clr1]
    rw [e]
    simp [sFrz, frzD, sRet, eVar]
  · obtain ⟨n, hn⟩ : ∃ n : Int, n = ls.length := ⟨_, rfl⟩
    have loop := forL_ok (g := gVar 6) (cl := [6, 7]) (b := b_law_row_2) (fun i ρ => ∃ (acc : List Int), ρ = [some (.val (.int c)), some (.val (.int s)), some (.val (.lst (ls.map .int))), some (.own (.lst (acc.map .int))), some (.val (.int r)), none, none, none] ∧ acc.length = i ∧ Below acc ls)
      (rangeD n) [some (.val (.int c)), some (.val (.int s)), some (.val (.lst (ls.map .int))), some (.own (.lst [])), some (.val (.int r)), none, none, none] ⟨[], rfl, rfl, fun i x l e => by simp at e⟩ (fun i d ρ hd hI => by
        obtain ⟨acc, rfl, rfl, hB⟩ := hI
        obtain ⟨rfl, hi⟩ := rangeD_get hd
        have hi : acc.length < ls.length := by rw [hn, Int.toNat_natCast] at hi; exact hi
        have e : ls[acc.length]? = some ls[acc.length] := List.getElem?_eq_getElem hi
        obtain ⟨l1, l2⟩ := hb e
        have hlen : acc.length < lineD := by
          show acc.length < 16777216
          omega
        have qa : oIx (.lst (ls.map .int)) (.int acc.length) = some (.int ls[acc.length]) := by
          simp only [oIx, atD_pos (Int.natCast_nonneg _), Int.toNat_natCast, List.getElem?_map, e, Option.map_some]
        obtain ⟨v, B, hv, st⟩ := row_step c s r ls[acc.length] (ls.map .int) (acc.map .int) acc.length l1 (by rw [List.length_map]; exact hlen) qa
        refine ⟨_, .inl st, acc ++ [v], ?_, by rw [List.length_append]; rfl, hB.snoc e hv⟩
        rw [List.map_append]
        rfl)
    obtain ⟨ρ, e, acc, rfl, hlen, hB⟩ := loop
    rw [rangeD_len] at hlen
    refine ⟨acc, ?_, by rw [hlen, hn, Int.toNat_natCast], hB⟩
    have hrng : rngOk n := rngOk_of (by omega) (by omega)
    have hlenD : oLen (.lst (ls.map .int)) = some (.int n) := by rw [hn]; simp only [oLen, List.length_map]
    clear hn
    refine defD_rt (ρ := [some (.val (.int c)), some (.val (.int s)), some (.val (.lst (ls.map .int))), some (.val (.lst (acc.map .int))), some (.val (.int r)), none, none, none]) rfl ?_
    unfold b_law_row
    refine Eq.trans (sSeq_nx (sOwn_ok (d := .lst []) rfl rfl)) ?_
    refine Eq.trans (sSeq_nx (sSet_ok (e1_ok (e1_ok (y := .int c) rfl rfl) hr) rfl)) ?_
    refine Eq.trans (sSeq_nx (ρ1 := [some (.val (.int c)), some (.val (.int s)), some (.val (.lst (ls.map .int))), some (.own (.lst [])), some (.val (.int r)), none, none, none]) (Eq.trans (sIf_f (tVal_ok (e2_ok (x := .int r) (y := .int 1000000000000000000) rfl (e2_ok rfl rfl pow1018) (by simp only [oGe, hbig, decide_false])))) rfl)) ?_
    refine Eq.trans (sSeq_nx (Eq.trans (sFor_ok (iRange_ok (e1_ok (x := .lst (ls.map .int)) rfl hlenD) hrng)) e)) ?_
    rfl
end Tw

set_option maxHeartbeats 2000000
namespace Tw
open PySem
/-- a text by its signs -/
def S (l : List Nat) : Str := ⟨l.toArray⟩
theorem S_inj {a b : List Nat} (h : S a = S b) : a = b := by
  have := congrArg (fun s : Str => s.cps.toList) h
  simpa [S] using this
theorem S_app (a b : List Nat) : S a ++ S b = S (a ++ b) := by
  show Str.append _ _ = _
  unfold Str.append S
  simp
theorem S_len (a : List Nat) : (S a).length = a.length := by
  unfold S Str.length
  simp
def LT : List Nat := [65, 66, 67, 68, 69, 70, 71, 72, 73, 74, 75, 76, 77, 78, 79, 80, 81, 82, 83, 84, 85, 86, 87, 88, 89, 90, 97, 98, 99, 100, 101, 102, 103, 104, 105, 106, 107, 108, 109, 110, 111, 112, 113, 114, 115, 116, 117, 118, 119, 120, 121, 122]
def DG10 : List Nat := [48, 49, 50, 51, 52, 53, 54, 55, 56, 57]
abbrev sLT : Str := Str.ofString "ABCDEFGHIJKLMNOPQRSTUVWXYZabcdefghijklmnopqrstuvwxyz"
abbrev sDG : Str := Str.ofString "0123456789"
theorem sLT_eq : sLT = S LT := by decide +kernel
theorem sDG_eq : sDG = S DG10 := by decide +kernel
theorem oAdd_S {a b : List Nat} (h : a.length + b.length ≤ lineD) : oAdd (.str (S a)) (.str (S b)) = some (.str (S (a ++ b))) := by
  show (if (S a).length + (S b).length ≤ lineD then some (D.str (S a ++ S b)) else none) = _
  rw [S_len, S_len, if_pos h, S_app]
theorem oLen_S {a : List Nat} (h : a.length ≤ lineD) : oLen (.str (S a)) = some (.int a.length) := by
  show (if (S a).length ≤ lineD then some (D.int (S a).length) else none) = _
  rw [S_len, if_pos h]
theorem oIx_S {a : List Nat} {i : Int} {c : Nat} (h : a.length ≤ lineD) (hi : 0 ≤ i) (e : a[i.toNat]? = some c) : oIx (.str (S a)) (.int i) = some (.str (S [c])) := by
  show (if (S a).length ≤ lineD then (match atD (S a).cps.toList i with | some c => some (D.str ⟨#[c]⟩) | none => none) else none) = _
  rw [S_len, if_pos h, atD_pos hi, show (S a).cps.toList = a by simp [S], e]
  rfl
/-- the word k of the style: its front, its letter, its back -/
def wordL (f b : List Nat) (z : Bool) (t : Nat) (k : Nat) : List Nat :=
  f ++ [LT.getD ((k * 5 + t) % 52) 0] ++ ((if 52 ≤ k then [121] else []) ++ (b ++ (if z && k % 2 == 1 then [122] else [])))
def isFr (f : List Nat) : Prop := f = [] ∨ f = [113] ∨ f = [90, 120] ∨ f = [110, 55, 119]
def isBk (b : List Nat) : Prop := b = [] ∨ b = [48] ∨ b = [97, 66] ∨ b = [57, 107]
theorem isFr.len {f : List Nat} (h : isFr f) : f.length ≤ 3 := by rcases h with rfl | rfl | rfl | rfl <;> decide
theorem isBk.len {f : List Nat} (h : isBk f) : f.length ≤ 2 := by rcases h with rfl | rfl | rfl | rfl <;> decide
theorem mod4 (s : Int) : s % 4 = 0 ∨ s % 4 = 1 ∨ s % 4 = 2 ∨ s % 4 = 3 := by omega
theorem fr_ok (s : Int) : ∃ f, isFr f ∧ oIx (.lst [.str "", .str "q", .str "Zx", .str "n7w"]) (.int (s % 4)) = some (.str (S f)) := by
  rcases mod4 s with e | e | e | e <;> rw [e]
  · exact ⟨[], .inl rfl, congrArg (fun x => some (D.str x)) (show Str.ofString "" = S [] by decide +kernel)⟩
  · exact ⟨[113], .inr (.inl rfl), congrArg (fun x => some (D.str x)) (show Str.ofString "q" = S [113] by decide +kernel)⟩
  · exact ⟨[90, 120], .inr (.inr (.inl rfl)), congrArg (fun x => some (D.str x)) (show Str.ofString "Zx" = S [90, 120] by decide +kernel)⟩
  · exact ⟨[110, 55, 119], .inr (.inr (.inr rfl)), congrArg (fun x => some (D.str x)) (show Str.ofString "n7w" = S [110, 55, 119] by decide +kernel)⟩
theorem bk_ok (s : Int) : ∃ f, isBk f ∧ oIx (.lst [.str "", .str "0", .str "aB", .str "9k"]) (.int (s % 4)) = some (.str (S f)) := by
  rcases mod4 s with e | e | e | e <;> rw [e]
  · exact ⟨[], .inl rfl, congrArg (fun x => some (D.str x)) (show Str.ofString "" = S [] by decide +kernel)⟩
  · exact ⟨[48], .inr (.inl rfl), congrArg (fun x => some (D.str x)) (show Str.ofString "0" = S [48] by decide +kernel)⟩
  · exact ⟨[97, 66], .inr (.inr (.inl rfl)), congrArg (fun x => some (D.str x)) (show Str.ofString "aB" = S [97, 66] by decide +kernel)⟩
  · exact ⟨[57, 107], .inr (.inr (.inr rfl)), congrArg (fun x => some (D.str x)) (show Str.ofString "9k" = S [57, 107] by decide +kernel)⟩
theorem oEq_int (i j : Int) : oEq (.int i) (.int j) = some (.bl (i == j)) := rfl
theorem small_le {n : Nat} (h : n ≤ 1000) : n ≤ lineD := by
  show n ≤ 16777216
  omega
theorem mulz (i : Int) (h : i % 2 = 0 ∨ i % 2 = 1) : oMul (.str "z") (.int (i % 2)) = some (.str (S (if i % 2 = 1 then [122] else []))) := by
  rcases h with e | e <;> rw [e]
  · exact congrArg (fun x => some (D.str x)) (show repS (Str.ofString "z") 0 = S [] by decide +kernel)
  · exact congrArg (fun x => some (D.str x)) (show repS (Str.ofString "z") 1 = S [122] by decide +kernel)
theorem law_word_ok (s : Int) (hs : 0 ≤ s) : ∃ (f b : List Nat) (z : Bool) (t : Nat), isFr f ∧ isBk b ∧ ∀ k : Nat, k < 1000 → d_law_word [.int s, .int k] = .ok (.str (S (wordL f b z t k))) := by
  obtain ⟨f, hf, ef⟩ := fr_ok s
  obtain ⟨b, hb, eb⟩ := bk_ok (s / 4)
  have lf := hf.len
  have lb := hb.len
  refine ⟨f, b, s / 16 % 2 == 1, (s / 32).toNat, hf, hb, fun k hk => ?_⟩
  have d4 : oFdiv (.int s) (.int 4) = some (.int (s / 4)) := oFdiv_ok (by decide) (by decide)
  have d16 : oFdiv (.int s) (.int 16) = some (.int (s / 16)) := oFdiv_ok (by decide) (by decide)
  have d32 : oFdiv (.int s) (.int 32) = some (.int (s / 32)) := oFdiv_ok (by decide) (by decide)
  have m4 : ∀ x, oMod (.int x) (.int 4) = some (.int (x % 4)) := fun x => oMod_ok (by decide)
  have m2 : ∀ x, oMod (.int x) (.int 2) = some (.int (x % 2)) := fun x => oMod_ok (by decide)
  have m52 : ∀ x, oMod (.int x) (.int 52) = some (.int (x % 52)) := fun x => oMod_ok (by decide)
  have k5 : ∀ x, oMul (.int x) (.int 5) = some (.int (x * 5)) := fun x => oMul_r (by decide)
  have b1l : (b ++ (if (s / 16 % 2 == 1) && k % 2 == 1 then [122] else [])).length ≤ 3 := by
    rw [List.length_append]; split <;> simp <;> omega
  refine defD_rt (ρ := [some (.val (.int s)), some (.val (.int k)), some (.val (.str (S LT))), some (.val (.str (S f))), some (.val (.str (S ((if 52 ≤ k then [121] else []) ++ (b ++ (if (s / 16 % 2 == 1) && k % 2 == 1 then [122] else []))))))]) rfl ?_
  unfold b_law_word
  refine Eq.trans (sSeq_nx (ρ1 := [some (.val (.int s)), some (.val (.int k)), some (.val (.str (S LT))), none, none]) (sSet_ok (d := .str (S LT)) (congrArg (fun x => Tw.R.ok (D.str x)) sLT_eq) rfl)) ?_
  refine Eq.trans (sSeq_nx (sSet_ok (e2_ok (x := .lst [.str "", .str "q", .str "Zx", .str "n7w"]) (y := .int (s % 4)) rfl (e2_ok (x := .int s) rfl rfl (m4 _)) ef) rfl)) ?_
  refine Eq.trans (sSeq_nx (ρ1 := [some (.val (.int s)), some (.val (.int k)), some (.val (.str (S LT))), some (.val (.str (S f))), some (.val (.str (S b)))]) (sSet_ok (e2_ok (x := .lst [.str "", .str "0", .str "aB", .str "9k"]) (y := .int (s / 4 % 4)) rfl (e2_ok (e2_ok (x := .int s) rfl rfl d4) rfl (m4 _)) eb) rfl)) ?_
  refine Eq.trans (sSeq_nx (ρ1 := [some (.val (.int s)), some (.val (.int k)), some (.val (.str (S LT))), some (.val (.str (S f))), some (.val (.str (S (b ++ (if (s / 16 % 2 == 1) && k % 2 == 1 then [122] else [])))))]) ?_) ?_
  · have et : tVal (e2 oEq (e2 oMod (e2 oFdiv (e1 oInt (eVar 0)) (eC (.int 16))) (eC (.int 2))) (eC (.int 1))) [some (.val (.int s)), some (.val (.int k)), some (.val (.str (S LT))), some (.val (.str (S f))), some (.val (.str (S b)))] = .ok (s / 16 % 2 == 1) :=
      tVal_ok (e2_ok (e2_ok (e2_ok (x := .int s) rfl rfl d16) rfl (m2 _)) rfl (oEq_int _ _))
    cases hz : (s / 16 % 2 == 1) with
    | true =>
      rw [hz] at et
      refine Eq.trans (sIf_t et) ?_
      have hk2 : ((k : Int) % 2 = 1) ↔ (k % 2 = 1) := by omega
      have em := mulz (k : Int) (by omega)
      refine sSet_ok (e2_ok (x := .str (S b)) (y := .str (S (if (k : Int) % 2 = 1 then [122] else []))) rfl (e2_ok (x := .str "z") (y := .int ((k : Int) % 2)) rfl (e1_ok (e2_ok (x := .int k) rfl rfl (m2 _)) rfl) em) (oAdd_S (small_le ?_))) ?_
      · split <;> simp <;> omega
      · have ei : (if (k : Int) % 2 = 1 then [122] else ([] : List Nat)) = if (true && k % 2 == 1) then [122] else [] := by
          by_cases h : k % 2 = 1
          · rw [if_pos (hk2.mpr h), if_pos (by simp [h])]
          · rw [if_neg (fun z => h (hk2.mp z)), if_neg (by simp [h])]
        rw [ei]
        rfl
    | false =>
      rw [hz] at et
      refine Eq.trans (sIf_f et) ?_
      simp only [Bool.false_and, Bool.false_eq_true, if_false, List.append_nil]
      rfl
  · generalize hB : (b ++ (if (s / 16 % 2 == 1) && k % 2 == 1 then [122] else [])) = B at b1l ⊢
    have et : tVal (e2 oGe (eVar 1) (eC (.int 52))) [some (.val (.int s)), some (.val (.int k)), some (.val (.str (S LT))), some (.val (.str (S f))), some (.val (.str (S B)))] = .ok (decide ((52 : Int) ≤ (k : Int))) := tVal_ok (e2_ok (x := .int k) rfl rfl rfl)
    refine Eq.trans (sSeq_nx (ρ1 := [some (.val (.int s)), some (.val (.int k)), some (.val (.str (S LT))), some (.val (.str (S f))), some (.val (.str (S ((if 52 ≤ k then [121] else []) ++ B))))]) ?_) ?_
    · by_cases h : 52 ≤ k
      · rw [decide_eq_true (by omega)] at et
        refine Eq.trans (sIf_t et) ?_
        rw [if_pos h]
        exact sSet_ok (e2_ok (x := .str (S [121])) (y := .str (S B)) (congrArg (fun x => Tw.R.ok (D.str x)) (show Str.ofString "y" = S [121] by decide +kernel)) rfl (oAdd_S (small_le (by simp; omega)))) rfl
      · rw [decide_eq_false (by omega)] at et
        refine Eq.trans (sIf_f et) ?_
        rw [if_neg h]
        rfl
    · generalize hC : (if 52 ≤ k then [121] else []) ++ B = C
      have lC : C.length ≤ 4 := by rw [← hC, List.length_append]; split <;> simp <;> omega
      have hix : ((k : Int) * 5 + s / 32) % 52 = (((k * 5 + (s / 32).toNat) % 52 : Nat) : Int) := by
        have : (0 : Int) ≤ s / 32 := Int.ediv_nonneg hs (by decide)
        omega
      have hlt : (k * 5 + (s / 32).toNat) % 52 < 52 := Nat.mod_lt _ (by decide)
      have hg : LT[(k * 5 + (s / 32).toNat) % 52]? = some (LT.getD ((k * 5 + (s / 32).toNat) % 52) 0) := by
        rw [List.getD_eq_getElem?_getD, List.getElem?_eq_getElem (show _ < LT.length from hlt)]
        rfl
      have eix : oIx (.str (S LT)) (.int (((k : Int) * 5 + s / 32) % 52)) = some (.str (S [LT.getD ((k * 5 + (s / 32).toNat) % 52) 0])) := by
        rw [hix]
        exact oIx_S (small_le (by decide)) (Int.natCast_nonneg _) hg
      have ew : wordL f b (s / 16 % 2 == 1) (s / 32).toNat k = f ++ [LT.getD ((k * 5 + (s / 32).toNat) % 52) 0] ++ C := by
        unfold wordL
        rw [hB, hC]
      rw [ew]
      exact sRet_ok (e2_ok (e2_ok (x := .str (S f)) rfl (e2_ok (x := .str (S LT)) rfl (e2_ok (e1_ok (e2_ok (e2_ok (x := .int k) rfl rfl (k5 _)) (e2_ok (x := .int s) rfl rfl d32) rfl) rfl) rfl (m52 _)) eix) (oAdd_S (small_le (by simp; omega)))) rfl (oAdd_S (small_le (by simp; omega))))
end Tw

set_option maxHeartbeats 2000000
namespace Tw
open PySem
def isL (c : Nat) : Bool := decide (c ∈ LT)
def isLD (c : Nat) : Bool := decide (c ∈ LT) || decide (c ∈ DG10)
def isW : List Nat → Bool
  | [] => false
  | c :: l => decide (l.length < 8) && isL c && (c :: l).all isLD
theorem in_LT (c : Nat) : oNotIn (.str (S [c])) (.str sLT) = some (.bl (!isL c)) := by
  rw [sLT_eq]
  rfl
theorem in_DG (c : Nat) : oNotIn (.str (S [c])) (.str sDG) = some (.bl (!decide (c ∈ DG10))) := by
  rw [sDG_eq]
  rfl
theorem tOr_t {a b : DT} {ρ : DEnv} (h : a ρ = .ok true) : tOrD a b ρ = .ok true := by
  unfold tOrD
  rw [h]
  rfl
theorem tOr_f {a b : DT} {ρ : DEnv} {x : Bool} (h : a ρ = .ok false) (k : b ρ = .ok x) : tOrD a b ρ = .ok x := by
  unfold tOrD
  rw [h]
  exact k
theorem tAnd_t {a b : DT} {ρ : DEnv} {x : Bool} (h : a ρ = .ok true) (k : b ρ = .ok x) : tAndD a b ρ = .ok x := by
  unfold tAndD
  rw [h]
  exact k
theorem tAnd_f {a b : DT} {ρ : DEnv} (h : a ρ = .ok false) : tAndD a b ρ = .ok false := by
  unfold tAndD
  rw [h]
  rfl
theorem tNot_ok {a : DT} {ρ : DEnv} {x : Bool} (h : a ρ = .ok x) : tNotD a ρ = .ok (!x) := by
  unfold tNotD
  rw [h]
  rfl
theorem tTru_bl {a : DE} {ρ : DEnv} {b : Bool} (h : a ρ = .ok (.bl b)) : tTru a ρ = .ok b := by
  unfold tTru
  rw [h]
  rfl
theorem iw_step (w : D) (c : Nat) : (gVar 1 (.str (S [c])) [some (.val w), none]).bind b_Titled_is_word_1 = if isLD c then .ok (.nx [some (.val w), some (.val (.str (S [c])))]) else .ok (.rt (.bl false) [some (.val w), some (.val (.str (S [c])))]) := by
  show b_Titled_is_word_1 [some (.val w), some (.val (.str (S [c])))] = _
  unfold b_Titled_is_word_1
  have t1 : tVal (e2 oNotIn (eVar 1) (eC (.str sLT))) [some (.val w), some (.val (.str (S [c])))] = .ok (!isL c) := tVal_ok (e2_ok (x := .str (S [c])) rfl rfl (in_LT c))
  have t2 : tVal (e2 oNotIn (eVar 1) (eC (.str sDG))) [some (.val w), some (.val (.str (S [c])))] = .ok (!decide (c ∈ DG10)) := tVal_ok (e2_ok (x := .str (S [c])) rfl rfl (in_DG c))
  cases h1 : isL c with
  | true =>
    rw [h1] at t1
    refine Eq.trans (sIf_f (tAnd_f t1)) ?_
    have : isLD c = true := by unfold isLD; rw [show decide (c ∈ LT) = true from h1]; rfl
    rw [if_pos this]
    rfl
  | false =>
    rw [h1] at t1
    cases h2 : decide (c ∈ DG10) with
    | true =>
      rw [h2] at t2
      refine Eq.trans (sIf_f (tAnd_t t1 t2)) ?_
      have : isLD c = true := by unfold isLD; rw [show decide (c ∈ LT) = false from h1, h2]; rfl
      rw [if_pos this]
      rfl
    | false =>
      rw [h2] at t2
      refine Eq.trans (sIf_t (tAnd_t t1 t2)) ?_
      have : isLD c = false := by unfold isLD; rw [show decide (c ∈ LT) = false from h1, h2]; rfl
      rw [this]
      rfl
theorem iw_loop (w : D) : ∀ l : List Nat, (l.all isLD = true → forL (gVar 1) [1] b_Titled_is_word_1 (l.map fun c => .str (S [c])) [some (.val w), none] = .ok (.nx [some (.val w), none])) ∧
    (l.all isLD = false → ∃ ρ, forL (gVar 1) [1] b_Titled_is_word_1 (l.map fun c => .str (S [c])) [some (.val w), none] = .ok (.rt (.bl false) ρ))
  | [] => ⟨fun _ => rfl, fun h => by cases h⟩
  | c :: l => by
    have ih := iw_loop w l
    have st := iw_step w c
    cases hc : isLD c with
    | true =>
      rw [hc, if_pos rfl] at st
      have e : forL (gVar 1) [1] b_Titled_is_word_1 ((c :: l).map fun c => .str (S [c])) [some (.val w), none] = forL (gVar 1) [1] b_Titled_is_word_1 (l.map fun c => .str (S [c])) [some (.val w), none] := by
        simp only [List.map_cons, forL, st]
        rfl
      rw [e, List.all_cons, hc, Bool.true_and]
      exact ih
    | false =>
      rw [hc, if_neg Bool.false_ne_true] at st
      refine ⟨fun h => (by rw [List.all_cons, hc] at h; cases h), fun _ => ⟨[some (.val w), some (.val (.str (S [c])))], ?_⟩⟩
      simp only [List.map_cons, forL, st]
theorem defD_of {n p : Nat} {b : DS} {ds : List D} {d : D} (hl : ds.length = p) (h : ∃ ρ, b (envD n ds) = .ok (.rt d ρ)) : defD n p b ds = .ok d := let ⟨_, h⟩ := h; defD_rt hl h
theorem is_word_ok (l : List Nat) (hl : l.length ≤ 1000) : d_Titled_is_word [.str (S l)] = .ok (.bl (isW l)) := by
  refine defD_of rfl ?_
  show ∃ ρ, b_Titled_is_word [some (.val (.str (S l))), none] = _
  unfold b_Titled_is_word
  have el : e1 oLen (eVar 0) [some (.val (.str (S l))), none] = .ok (.int l.length) := e1_ok (x := .str (S l)) rfl (oLen_S (small_le hl))
  have t1 : tVal (e2 oLt (e1 oLen (eVar 0)) (eC (.int 1))) [some (.val (.str (S l))), none] = .ok (decide ((l.length : Int) < 1)) := tVal_ok (e2_ok el rfl rfl)
  have t2 : tVal (e2 oGt (e1 oLen (eVar 0)) (eC (.int 8))) [some (.val (.str (S l))), none] = .ok (decide ((8 : Int) < l.length)) := tVal_ok (e2_ok el rfl rfl)
  have out : ∀ {c : DT} {q : DS}, c [some (.val (.str (S l))), none] = .ok true → ∃ ρ, sSeq (sIf c (sRet (eC (.bl false))) sNext) q [some (.val (.str (S l))), none] = .ok (.rt (.bl false) ρ) := fun h => ⟨_, sSeq_rt (Eq.trans (sIf_t h) rfl)⟩
  cases l with
  | nil => exact out (tOr_t t1)
  | cons c l =>
    rw [decide_eq_false (by rw [List.length_cons]; omega)] at t1
    have t3 : tVal (e2 oNotIn (e2 oIx (eVar 0) (eC (.int 0))) (eC (.str sLT))) [some (.val (.str (S (c :: l)))), none] = .ok (!isL c) :=
      tVal_ok (e2_ok (e2_ok (x := .str (S (c :: l))) rfl rfl (oIx_S (c := c) (small_le hl) (Int.le_refl 0) rfl)) rfl (in_LT c))
    rw [show isW (c :: l) = (decide (l.length < 8) && isL c && (c :: l).all isLD) from rfl]
    by_cases h8 : l.length < 8
    · rw [decide_eq_false (by rw [List.length_cons]; omega)] at t2
      rw [decide_eq_true h8, Bool.true_and]
      cases hc : isL c with
      | false =>
        rw [hc] at t3
        exact out (tOr_f t1 (tOr_f t2 t3))
      | true =>
        rw [hc] at t3
        rw [Bool.true_and]
        have hn : sIf (tOrD (tVal (e2 oLt (e1 oLen (eVar 0)) (eC (.int 1)))) (tOrD (tVal (e2 oGt (e1 oLen (eVar 0)) (eC (.int 8)))) (tVal (e2 oNotIn (e2 oIx (eVar 0) (eC (.int 0))) (eC (.str sLT)))))) (sRet (eC (.bl false))) sNext [some (.val (.str (S (c :: l)))), none] = .ok (.nx [some (.val (.str (S (c :: l)))), none]) :=
          Eq.trans (sIf_f (tOr_f t1 (tOr_f t2 t3))) rfl
        have hf : sFor (iOf (eVar 0)) (gVar 1) [1] b_Titled_is_word_1 [some (.val (.str (S (c :: l)))), none] = forL (gVar 1) [1] b_Titled_is_word_1 ((c :: l).map fun c => .str (S [c])) [some (.val (.str (S (c :: l)))), none] :=
          sFor_ok (iOf_ok (d := .str (S (c :: l))) rfl (by simp [iterD, S]))
        have lp := iw_loop (.str (S (c :: l))) (c :: l)
        cases ha : (c :: l).all isLD with
        | true => exact ⟨_, Eq.trans (sSeq_nx hn) (Eq.trans (sSeq_nx (Eq.trans hf (lp.1 ha))) rfl)⟩
        | false =>
          obtain ⟨ρ, e⟩ := lp.2 ha
          exact ⟨ρ, Eq.trans (sSeq_nx hn) (sSeq_rt (Eq.trans hf e))⟩
    · rw [decide_eq_true (by rw [List.length_cons]; omega)] at t2
      rw [decide_eq_false h8, Bool.false_and, Bool.false_and]
      exact out (tOr_f t1 (tOr_t t2))
theorem isLD_LT {n : Nat} (h : n < 52) : isL (LT.getD n 0) = true ∧ isLD (LT.getD n 0) = true := by
  have : ∀ i : Fin 52, isL (LT.getD i.1 0) = true ∧ isLD (LT.getD i.1 0) = true := by decide +kernel
  exact this ⟨n, h⟩
theorem LT_inj {n m : Nat} (h : n < 52) (k : m < 52) (e : LT.getD n 0 = LT.getD m 0) : n = m := by
  have : ∀ i j : Fin 52, LT.getD i.1 0 = LT.getD j.1 0 → i = j := by decide +kernel
  exact congrArg Fin.val (this ⟨n, h⟩ ⟨m, k⟩ e)
theorem word_ok {f b : List Nat} {z : Bool} {t k : Nat} (hf : isFr f) (hb : isBk b) : isW (wordL f b z t k) = true ∧ (wordL f b z t k).length ≤ 8 := by
  obtain ⟨h1, h2⟩ := isLD_LT (Nat.mod_lt (k * 5 + t) (show 0 < 52 by decide))
  unfold wordL
  generalize LT.getD ((k * 5 + t) % 52) 0 = c at h1 h2
  have hy : (if 52 ≤ k then [121] else ([] : List Nat)) = [] ∨ (if 52 ≤ k then [121] else ([] : List Nat)) = [121] := by split <;> simp
  have hz : (if z && k % 2 == 1 then [122] else ([] : List Nat)) = [] ∨ (if z && k % 2 == 1 then [122] else ([] : List Nat)) = [122] := by split <;> simp
  have d1 : isLD 113 = true := by decide +kernel
  have d2 : isLD 90 = true := by decide +kernel
  have d3 : isLD 120 = true := by decide +kernel
  have d4 : isLD 110 = true := by decide +kernel
  have d5 : isLD 55 = true := by decide +kernel
  have d6 : isLD 119 = true := by decide +kernel
  have d7 : isLD 48 = true := by decide +kernel
  have d8 : isLD 97 = true := by decide +kernel
  have d9 : isLD 66 = true := by decide +kernel
  have da : isLD 57 = true := by decide +kernel
  have db : isLD 107 = true := by decide +kernel
  have dc : isLD 121 = true := by decide +kernel
  have dd : isLD 122 = true := by decide +kernel
  have g1 : isL 113 = true := by decide +kernel
  have g2 : isL 90 = true := by decide +kernel
  have g3 : isL 110 = true := by decide +kernel
  rcases hy with e | e <;> rw [e] <;> rcases hz with e | e <;> rw [e] <;> rcases hf with rfl | rfl | rfl | rfl <;> rcases hb with rfl | rfl | rfl | rfl <;>
    simp [isW, h1, h2, d1, d2, d3, d4, d5, d6, d7, d8, d9, da, db, dc, dd, g1, g2, g3]
theorem word_inj {f b : List Nat} {z : Bool} {t j k : Nat} (hj : j < 62) (hk : k < 62) (e : wordL f b z t j = wordL f b z t k) : j = k := by
  unfold wordL at e
  rw [List.append_assoc, List.append_assoc] at e
  have e := List.append_cancel_left e
  simp only [List.singleton_append, List.cons.injEq] at e
  obtain ⟨e1, e2⟩ := e
  have em := LT_inj (Nat.mod_lt _ (by decide)) (Nat.mod_lt _ (by decide)) e1
  have h52 : j % 52 = k % 52 := by omega
  have hp : j % 2 = k % 2 := by omega
  have el := congrArg List.length e2
  rw [hp] at el
  simp only [List.length_append] at el
  by_cases a : 52 ≤ j <;> by_cases c : 52 ≤ k <;> simp [a, c] at el <;> omega
end Tw

set_option maxHeartbeats 2000000
namespace Tw
open PySem
def stL (ws : List (List Nat)) : List D := ws.map fun w => .str (S w)
theorem stL_eq (ws : List (List Nat)) : stL ws = (ws.map S).map D.str := by unfold stL; rw [List.map_map]; rfl
theorem mem_S {w : List Nat} {ws : List (List Nat)} : S w ∈ ws.map S ↔ w ∈ ws := by
  refine ⟨fun h => ?_, fun h => List.mem_map_of_mem h⟩
  obtain ⟨v, hv, e⟩ := List.mem_map.mp h
  rwa [← S_inj e]
theorem inD_lst (w : List Nat) (ws : List (List Nat)) : inD (.str (S w)) (.lst (stL ws)) = some (decide (w ∈ ws)) := by
  rw [stL_eq, inD_lst_str]
  congr 1
  exact decide_eq_decide.mpr mem_S
theorem inD_tup (w : List Nat) (ws : List (List Nat)) : inD (.str (S w)) (.tup (stL ws)) = some (decide (w ∈ ws)) := by
  rw [stL_eq, inD_tup_str]
  congr 1
  exact decide_eq_decide.mpr mem_S
theorem oIn_lst (w : List Nat) (ws : List (List Nat)) : oIn (.str (S w)) (.lst (stL ws)) = some (.bl (decide (w ∈ ws))) := by
  unfold oIn
  rw [inD_lst]
  rfl
theorem oIn_tup (w : List Nat) (ws : List (List Nat)) : oIn (.str (S w)) (.tup (stL ws)) = some (.bl (decide (w ∈ ws))) := by
  unfold oIn
  rw [inD_tup]
  rfl
theorem stL_len (ws : List (List Nat)) : (stL ws).length = ws.length := by unfold stL; rw [List.length_map]
theorem stL_app (a b : List (List Nat)) : stL (a ++ b) = stL a ++ stL b := by unfold stL; rw [List.map_append]
theorem stL_get {ws : List (List Nat)} {i : Nat} {d : D} (h : (stL ws)[i]? = some d) : ∃ w, ws[i]? = some w ∧ d = .str (S w) := by
  unfold stL at h
  rw [List.getElem?_map] at h
  obtain ⟨w, e, rfl⟩ := Option.map_eq_some_iff.mp h
  exact ⟨w, e, rfl⟩
/-- a list or a tuple of these -/
def Lt (d : D) (l : List D) : Prop := d = .lst l ∨ d = .tup l
theorem Lt.list {d : D} {l : List D} (h : Lt d l) : oList d = some (.lst l) := by rcases h with rfl | rfl <;> rfl
theorem Lt.tuple {d : D} {l : List D} (h : Lt d l) : oTuple d = some (.tup l) := by rcases h with rfl | rfl <;> rfl
theorem sApp_ok {i : Nat} {e : DE} {ρ ρ1 : DEnv} {l : List D} {d : D} (h : ρ[i]? = some (some (.own (.lst l)))) (k : e ρ = .ok d) (hl : l.length < lineD) (r : ρ.set i (some (.own (.lst (l ++ [d])))) = ρ1) : sApp i e ρ = .ok (.nx ρ1) := by
  unfold sApp
  rw [h]
  simp only [k, R.st_ok, if_pos hl, r]
theorem sFld_ok {i : Nat} {f : Str} {e : DE} {ρ ρ1 : DEnv} {d s s' : D} (h : ρ[i]? = some (some (.slf s))) (k : e ρ = .ok d) (p : putF f d s = some s') (r : ρ.set i (some (.slf s')) = ρ1) : sFld i f e ρ = .ok (.nx ρ1) := by
  unfold sFld
  rw [k]
  simp only [R.st_ok, h, p, r]
theorem eCall_ok {f : List D → R D} {as : DA} {ρ : DEnv} {ds : List D} {d : D} (h : as ρ = .ok ds) (k : f ds = .ok d) : eCall f as ρ = .ok d := by
  unfold eCall
  rw [h]
  exact k
theorem aCons_ok {a : DE} {as : DA} {ρ : DEnv} {d : D} {ds : List D} (h : a ρ = .ok d) (k : as ρ = .ok ds) : aCons a as ρ = .ok (d :: ds) := by
  unfold aCons
  rw [h, R.bind_ok, k]
  rfl
theorem decl_step (s nd sd : D) (w : List Nat) (gs : List (List Nat)) (hw : isW w = true) (hl : w.length ≤ 1000) (hg : gs.length < 1000) (hn : w ∉ gs) :
    (gVar 4 (.str (S w)) [some (.slf s), some (.val nd), some (.val sd), some (.own (.lst (stL gs))), none]).bind b_Declaring_init_1 = .ok (.nx [some (.slf s), some (.val nd), some (.val sd), some (.own (.lst (stL (gs ++ [w])))), some (.val (.str (S w)))]) := by
  show b_Declaring_init_1 [some (.slf s), some (.val nd), some (.val sd), some (.own (.lst (stL gs))), some (.val (.str (S w)))] = _
  unfold b_Declaring_init_1
  have c1 := is_word_ok w hl
  rw [hw] at c1
  refine Eq.trans (sSeq_nx (Eq.trans (sIf_f (tNot_ok (tTru_bl (eCall_ok (aCons_ok (d := .str (S w)) rfl rfl) c1)))) rfl)) ?_
  have c2 := oIn_lst w gs
  rw [decide_eq_false hn] at c2
  refine Eq.trans (sSeq_nx (Eq.trans (sIf_f (tVal_ok (e2_ok (x := .str (S w)) (y := .lst (stL gs)) rfl rfl c2))) rfl)) ?_
  exact sApp_ok (l := stL gs) (d := .str (S w)) rfl rfl (by rw [stL_len]; exact Nat.lt_of_lt_of_le hg (small_le (Nat.le_refl _))) (by rw [stL_app]; rfl)
theorem decl_ok {s s1 s2 nd sd : D} {ns ss : List (List Nat)} (hn : Lt nd (stL ns)) (hs : Lt sd (stL ss)) (hw : ∀ w ∈ ns ++ ss, isW w = true ∧ w.length ≤ 1000) (nd' : (ns ++ ss).Nodup) (hl : (ns ++ ss).length < 1000)
    (p1 : putF "names" (.tup (stL ns)) s = some s1) (p2 : putF "statics" (.tup (stL ss)) s1 = some s2) :
    ∃ ρ, b_Declaring_init [some (.slf s), some (.val nd), some (.val sd), none, none] = .ok (.nx (some (.slf s2) :: ρ)) := by
  unfold b_Declaring_init
  refine ⟨[some (.val nd), some (.val sd), some (.own (.lst (stL (ns ++ ss)))), none], ?_⟩
  refine Eq.trans (sSeq_nx (sOwn_ok (d := .lst []) rfl rfl)) ?_
  have loop := forL_st (g := gVar 4) (cl := [4]) (b := b_Declaring_init_1) (fun i => [some (.slf s), some (.val nd), some (.val sd), some (.own (.lst (stL ((ns ++ ss).take i)))), none]) (stL (ns ++ ss)) (fun i d hd => by
    obtain ⟨w, e, rfl⟩ := stL_get hd
    obtain ⟨hi, e'⟩ := List.getElem?_eq_some_iff.mp e
    have hm := List.mem_of_getElem? e
    have ht : w ∉ (ns ++ ss).take i := fun z => by
      obtain ⟨j, hj, ej⟩ := List.mem_iff_getElem.mp z
      rw [List.length_take] at hj
      rw [List.getElem_take] at ej
      have := (List.getElem_inj (h₀ := by omega) (h₁ := hi) nd').mp (ej.trans e'.symm)
      omega
    refine ⟨_, .inl (decl_step s nd sd w _ (hw w hm).1 (hw w hm).2 (by rw [List.length_take]; omega) ht), ?_⟩
    have : (ns ++ ss).take (i + 1) = (ns ++ ss).take i ++ [w] := by rw [List.take_succ, e]; rfl
    show [some (Slot.slf s), some (.val nd), some (.val sd), some (.own (.lst (stL ((ns ++ ss).take i ++ [w])))), none] = _
    rw [this])
  rw [stL_len, List.take_length] at loop
  have ea : oAdd (.lst (stL ns)) (.lst (stL ss)) = some (.lst (stL (ns ++ ss))) := by
    show (if (stL ns).length + (stL ss).length ≤ lineD then some (D.lst (stL ns ++ stL ss)) else none) = _
    rw [List.length_append] at hl
    rw [stL_len, stL_len, if_pos (small_le (by omega)), stL_app]
  refine Eq.trans (sSeq_nx (Eq.trans (sFor_ok (iOf_ok (d := .lst (stL (ns ++ ss))) (e2_ok (e1_ok (x := nd) rfl hn.list) (e1_ok (x := sd) rfl hs.list) ea) rfl)) loop)) ?_
  refine Eq.trans (sSeq_nx (sFld_ok (s := s) rfl (e1_ok (x := nd) rfl hn.tuple) p1 rfl)) ?_
  exact sFld_ok (s := s1) rfl (e1_ok (x := sd) rfl hs.tuple) p2 rfl
theorem putF_ok {f : Str} {v : D} {c : String} {ks : List Str} {vs : List D} (h : ks.length < 999) (k : f ∈ fldOf c) : putF f v (.obj c ks vs) = some (.obj c (putDk f ks) (putDv f v ks vs)) := if_pos ⟨h, k⟩
end Tw

namespace Tw
open PySem
section
variable {ρ : DEnv} {a b : DE} {as ks : DA} {c : String} {f : List D → R D} {i : Nat} {x y : D} {o : Option Slot}
def rmS (c : String) (f : List D → R D) (x y : D) : R D := match y with
  | .obj c' ks vs => if c' = c then (f [.obj c' ks vs, x]).bind fun r => match r with | .bl b => .ok (.bl b) | _ => .no else .no
  | _ => .no
def rmnS (c : String) (f : List D → R D) (x y : D) : R D := match y with
  | .obj c' ks vs => if c' = c then (f [.obj c' ks vs, x]).bind fun r => match r with | .bl b => .ok (.bl (!b)) | _ => .no else .no
  | _ => .no
theorem q_rm : eRM c f a b ρ = (a ρ).bind fun x => (b ρ).bind fun y => rmS c f x y := rfl
theorem q_rmn : eRMn c f a b ρ = (a ρ).bind fun x => (b ρ).bind fun y => rmnS c f x y := rfl
def blS (r : D) : R D := match r with | .bl b => .ok (.bl b) | _ => .no
def nblS (r : D) : R D := match r with | .bl b => .ok (.bl (!b)) | _ => .no
theorem bl_b {k : Bool} : blS (.bl k) = .ok (.bl k) := rfl
theorem nbl_b {k : Bool} : nblS (.bl k) = .ok (.bl (!k)) := rfl
theorem rm_o {ks : List Str} {vs : List D} : rmS c f x (.obj c ks vs) = (f [.obj c ks vs, x]).bind blS := if_pos rfl
theorem rmn_o {ks : List Str} {vs : List D} : rmnS c f x (.obj c ks vs) = (f [.obj c ks vs, x]).bind nblS := if_pos rfl
def opS (c : String) (cs : List String) (f : List D → R D) (x y : D) : R D := match x, y with
  | .obj c1 ks vs, .obj c2 ks2 vs2 => if c1 = c ∧ c2 ∈ cs then f [.obj c1 ks vs, .obj c2 ks2 vs2] else .no
  | _, _ => .no
theorem q_op {cs : List String} : eOp c cs f a b ρ = (a ρ).bind fun x => (b ρ).bind fun y => opS c cs f x y := rfl
theorem op_o {c2 : String} {ks ks2 : List Str} {vs vs2 : List D} : opS c [c2] f (.obj c ks vs) (.obj c2 ks2 vs2) = f [.obj c ks vs, .obj c2 ks2 vs2] := if_pos ⟨rfl, List.mem_cons_self⟩
def ixoS (c : String) (f : List D → R D) (x y : D) : R D := match x with
  | .obj c' ks vs => if c' = c then f [.obj c' ks vs, y] else .no
  | _ => .no
theorem q_ixo : eIxO c f a b ρ = (a ρ).bind fun x => (b ρ).bind fun y => ixoS c f x y := rfl
theorem ixo_o {ks : List Str} {vs : List D} : ixoS c f (.obj c ks vs) y = f [.obj c ks vs, y] := if_pos rfl
theorem q_iown {fl : Str} : iOwn c fl a ρ = (a ρ).bind fun x => R.of (itO c fl x) := rfl
theorem ito_o {fl : Str} {ks : List Str} {vs : List D} : itO c fl (.obj c ks vs) = match lookD ks vs fl with | some (.lst l) => some l | _ => none := if_pos rfl
def mkS (n m : Nat) (cn : String) (gD : List D → List D → List D) (init : D → List D → R (D × D)) (xs ys : List D) : R D := if xs.length = n ∧ ys.length = m then mkD cn init (gD xs ys) else .no
theorem q_mkk {n m : Nat} {cn : String} {gD : List D → List D → List D} {init : D → List D → R (D × D)} : eMkK n m cn gD init as ks ρ = (as ρ).bind fun xs => (ks ρ).bind fun ys => mkS n m cn gD init xs ys := rfl
theorem mk_3 {cn : String} {gD : List D → List D → List D} {init : D → List D → R (D × D)} {p q r s : D} : mkS 1 3 cn gD init [p] [q, r, s] = mkD cn init (gD [p] [q, r, s]) := if_pos ⟨rfl, rfl⟩
theorem mk_2 {cn : String} {gD : List D → List D → List D} {init : D → List D → R (D × D)} {p q r : D} : mkS 1 2 cn gD init [p] [q, r] = mkD cn init (gD [p] [q, r]) := if_pos ⟨rfl, rfl⟩
theorem mk_1 {cn : String} {gD : List D → List D → List D} {init : D → List D → R (D × D)} {p q : D} : mkS 1 1 cn gD init [p] [q] = mkD cn init (gD [p] [q]) := if_pos ⟨rfl, rfl⟩
theorem g_3 {p q r s : D} : gDr3 [p] [q, r, s] = [p, q, r, s] := rfl
theorem g_2 {p q r : D} : gDr2 [p] [q, r] = [p, q, r, .tup []] := rfl
theorem g_1 {p q : D} : gDr1 [p] [q] = [p, q, .tup [], .tup []] := rfl
theorem q_clm : eClm c f as ρ = (as ρ).bind fun xs => f (.cls c :: xs) := rfl
def clsS (c : String) (init : D → List D → R (D × D)) (as : DA) (ρ : DEnv) (o : Option Slot) : R D := match o with
  | some (.val (.cls c')) => if c' = c then (as ρ).bind (mkD c init) else .no
  | _ => .no
theorem q_cls {init : D → List D → R (D × D)} : eCls c init i as ρ = clsS c init as ρ (getO i ρ) := by
  unfold eCls clsS getO
  cases h : ρ[i]? with
  | none => rfl
  | some o => cases o with
    | none => rfl
    | some o => cases o with
      | val d => cases d <;> rfl
      | _ => rfl
theorem cls_o {init : D → List D → R (D × D)} : clsS c init as ρ (some (.val (.cls c))) = (as ρ).bind (mkD c init) := if_pos rfl
def mkE (p : D × D) : R D := match p.1 with
  | .non => .ok p.2
  | _ => .no
theorem q_mkd {init : D → List D → R (D × D)} {ds : List D} : mkD c init ds = (init (.obj c [] []) ds).bind mkE := by
  unfold mkD mkE
  cases init (.obj c [] []) ds with
  | ok p => cases p with | mk a b => cases a <;> rfl
  | ex e => rfl
  | no => rfl
theorem mke_n : mkE (.non, x) = .ok x := rfl
def iniS (i : Nat) (f : D → List D → R (D × D)) (as : DA) (ρ : DEnv) (o : Option Slot) : R Out := match o with
  | some (.slf (.obj c ks l)) => (as ρ).st ρ fun xs => if noGst l then (match f (.obj c ks l) xs with
    | .ok p => .ok (.nx (ρ.set i (some (.slf p.2))))
    | .ex e => .ok (.xx e (ρ.map fun _ => none))
    | .no => .no) else .no
  | _ => .no
theorem q_ini {h : D → List D → R (D × D)} : sInitC i h as ρ = iniS i h as ρ (getO i ρ) := by
  unfold sInitC iniS getO
  cases e : ρ[i]? with
  | none => rfl
  | some o => cases o with
    | none => rfl
    | some o => cases o with
      | slf d => cases d <;> rfl
      | _ => rfl
def iniE (i : Nat) (ρ : DEnv) (r : R (D × D)) : R Out := match r with
  | .ok p => .ok (.nx (ρ.set i (some (.slf p.2))))
  | .ex e => .ok (.xx e (ρ.map fun _ => none))
  | .no => .no
theorem ini_o {h : D → List D → R (D × D)} {ks : List Str} {l : List D} (hn : noGst l = true) : iniS i h as ρ (some (.slf (.obj c ks l))) = (as ρ).st ρ fun xs => iniE i ρ (h (.obj c ks l) xs) := by
  unfold iniS iniE
  simp only [hn, if_true]
theorem inie_ok {p : D × D} : iniE i ρ (.ok p) = .ok (.nx (ρ.set i (some (.slf p.2)))) := rfl
theorem inie_ex {e : Ex} : iniE i ρ (.ex e) = .ok (.xx e (ρ.map fun _ => none)) := rfl
theorem ng_n : noGst [] = true := id rfl
theorem ng_s {s : Str} {l : List D} : noGst (.str s :: l) = noGst l := id rfl
theorem ng_t {m l : List D} : noGst (.tup m :: l) = noGst l := id rfl
theorem ng_b {k : Bool} {l : List D} : noGst (.bl k :: l) = noGst l := id rfl
def ngs := And.intro @ng_n <| And.intro @ng_s <| And.intro @ng_t @ng_b
end
def ev := And.intro @q_seq <| And.intro @sq_nx <| And.intro @sq_rt <| And.intro @sq_bk <| And.intro @sq_ct <| And.intro @sq_xx <| And.intro @q_next <| And.intro @q_brk <| And.intro @q_cnt <| And.intro @ite_t <| And.intro @ite_f <| And.intro @q_if <| And.intro @v_z <| And.intro @v_s <| And.intro @k_zv <| And.intro @k_zo <| And.intro @k_s <| And.intro @st_zn <| And.intro @st_zv <| And.intro @st_zo <| And.intro @so_zn <| And.intro @so_zv <| And.intro @so_zo <| And.intro @cr_ok <| And.intro @st_s <| And.intro @so_s <| And.intro @fz_zo <| And.intro @fz_zv <| And.intro @fz_zn <| And.intro @fz_s <| And.intro @cl_zo <| And.intro @cl_zv <| And.intro @cl_zn <| And.intro @cl_s <| And.intro @cd_n <| And.intro @cd_c <| And.intro @fl_n <| And.intro @fl_c <| And.intro @q_frz <| And.intro @q_clr <| And.intro @wp_n <| And.intro @wp_c <| And.intro @ow_n <| And.intro @ow_c <| And.intro @o1_zn <| And.intro @o1_zv <| And.intro @o1_s <| And.intro @t_z <| And.intro @t_s <| And.intro @q_c <| And.intro @q_e1 <| And.intro @q_e2 <| And.intro @q_an <| And.intro @q_ac <| And.intro @q_call <| And.intro @q_meth <| And.intro @m_obj <| And.intro @m_obj2 <| And.intro @m_obj3 <| And.intro @q_tup <| And.intro @q_lst <| And.intro @sS0 <| And.intro @sS1 <| And.intro @sS2 <| And.intro @sS3 <| And.intro @sS4 <| And.intro @sS5 <| And.intro @sS6 <| And.intro @sS7 <| And.intro @sS8 <| And.intro @q_ife <| And.intro @ie_t <| And.intro @ie_f <| And.intro @q_and <| And.intro @q_or <| And.intro @q_not <| And.intro @ae_t <| And.intro @ae_f <| And.intro @oe_t <| And.intro @oe_f <| And.intro @ne_k <| And.intro @q_xn <| And.intro @q_xs <| And.intro @xi_i <| And.intro @q_sl <| And.intro @q_tv <| And.intro @tv_b <| And.intro @q_tt <| And.intro @q_ta <| And.intro @q_to <| And.intro @q_tn <| And.intro @at_t <| And.intro @at_f <| And.intro @ot_t <| And.intro @ot_f <| And.intro @q_ty <| And.intro @q_set <| And.intro @q_own <| And.intro @q_asg <| And.intro @q_drop <| And.intro @q_ret <| And.intro @q_retn <| And.intro @go_z <| And.intro @go_s <| And.intro @q_app <| And.intro @ap_l <| And.intro @lt_ok <| And.intro @q_clear <| And.intro @cs_l <| And.intro @q_aug <| And.intro @au_v <| And.intro @q_fld <| And.intro @fs_s <| And.intro @q_for <| And.intro @lp_nx <| And.intro @lp_ct <| And.intro @lp_bk <| And.intro @lp_rt <| And.intro @lp_xx <| And.intro @f_n <| And.intro @g_v <| And.intro @g_t <| And.intro @g_vn <| And.intro @g_vc <| And.intro @q_io <| And.intro @q_ir <| And.intro @rg_n <| And.intro @q_comp <| And.intro @fd_rt <| And.intro @fd_nx <| And.intro @fd_xx <| And.intro @fi_nx <| And.intro @fi_rt <| And.intro @fi_xx <| And.intro @p_add <| And.intro @p_sub <| And.intro @p_adds <| And.intro @p_addl <| And.intro @p_addt <| And.intro @p_mod <| And.intro @p_fdiv <| And.intro @p_lt <| And.intro @p_le <| And.intro @p_gt <| And.intro @p_ge <| And.intro @p_eqi <| And.intro @p_nei <| And.intro @p_eqs <| And.intro @p_nes <| And.intro @p_eqb <| And.intro @p_neb <| And.intro @p_int <| And.intro @p_intb <| And.intro @p_neg <| And.intro @p_lenl <| And.intro @p_lent <| And.intro @p_lenc <| And.intro @p_lens <| And.intro @p_listl <| And.intro @p_listt <| And.intro @p_tupl <| And.intro @p_tupt <| And.intro @p_max <| And.intro @p_isn <| And.intro @p_isnn <| And.intro @p_ixl <| And.intro @p_ixt <| And.intro @p_ixc <| And.intro @p_ixd <| And.intro @p_fld <| And.intro @p_at0 <| And.intro @p_at1 <| And.intro @p_atn <| And.intro @p_trub <| And.intro @p_trul <| And.intro @p_trut <| And.intro @p_trun <| And.intro @p_itl <| And.intro @p_itt <| And.intro @p_isib <| And.intro @p_isit <| And.intro @p_isil <| And.intro @p_isis <| And.intro @p_isii <| And.intro @p_isibi <| And.intro @b_tt <| And.intro @b_ff <| And.intro @b_tf <| And.intro @b_ft <| And.intro @nt_t <| And.intro @nt_f <| And.intro @q_rm <| And.intro @q_rmn <| And.intro @bl_b <| And.intro @nbl_b <| And.intro @rm_o <| And.intro @rmn_o <| And.intro @q_op <| And.intro @op_o <| And.intro @q_ixo <| And.intro @ixo_o <| And.intro @q_iown <| And.intro @ito_o <| And.intro @q_mkk <| And.intro @mk_3 <| And.intro @mk_2 <| And.intro @mk_1 <| And.intro @g_3 <| And.intro @g_2 <| And.intro @g_1 <| And.intro @q_clm <| And.intro @q_cls <| And.intro @cls_o <| And.intro @mke_n <| And.intro @q_ini <| And.intro @ini_o <| And.intro @inie_ok <| And.intro @inie_ex <| And.intro @ng_n <| And.intro @ng_s <| And.intro @ng_t @ng_b
end Tw

set_option maxHeartbeats 2000000
namespace Tw
open PySem
abbrev Wd := List Nat
theorem isW_len {w : Wd} (h : isW w = true) : w.length ≤ 8 := by
  cases w with
  | nil => exact Nat.zero_le _
  | cons c l =>
    rw [show isW (c :: l) = (decide (l.length < 8) && isL c && (c :: l).all isLD) from rfl] at h
    have := of_decide_eq_true (Bool.and_eq_true_iff.mp (Bool.and_eq_true_iff.mp h).1).1
    exact this
theorem isw_ok {w : Wd} (h : isW w = true) : d_Titled_is_word [.str (S w)] = .ok (.bl true) := by
  rw [is_word_ok w (by have := isW_len h; omega), h]
theorem putN {f : Str} {c : String} {ks : List Str} {vs : List D} {v : D} (h1 : f ∈ fldOf c) (h2 : f ∉ ks) (h3 : ks.length < 999) (h4 : ks.length = vs.length) : putF f v (.obj c ks vs) = some (.obj c (ks ++ [f]) (vs ++ [v])) := by
  have k1 : ∀ ks : List Str, f ∉ ks → putDk f ks = ks ++ [f] := by
    intro ks
    induction ks with
    | nil => intro _; rfl
    | cons k ks ih =>
      intro h
      unfold putDk
      rw [if_neg (fun z => h (by rw [z]; exact List.mem_cons_self)), ih fun z => h (List.mem_cons_of_mem _ z)]
      rfl
  have k2 : ∀ (ks : List Str) (vs : List D), f ∉ ks → ks.length = vs.length → putDv f v ks vs = vs ++ [v] := by
    intro ks
    induction ks with
    | nil => intro vs _ e; cases vs <;> simp_all [putDv]
    | cons k ks ih =>
      intro vs h e
      cases vs with
      | nil => simp at e
      | cons u vs =>
        unfold putDv
        rw [if_neg (fun z => h (by rw [z]; exact List.mem_cons_self)), ih vs (fun z => h (List.mem_cons_of_mem _ z)) (by simpa using e)]
        rfl
  rw [putF_ok h3 h1, k1 ks h2, k2 ks vs h2 h4]
theorem put0 {f : Str} {c : String} {v : D} (h1 : f ∈ fldOf c) : putF f v (.obj c [] []) = some (.obj c [f] [v]) := putN h1 (by simp) (by decide) rfl
theorem put1 {f k : Str} {c : String} {v a : D} (h1 : f ∈ fldOf c) (h2 : f ∉ [k]) : putF f v (.obj c [k] [a]) = some (.obj c [k, f] [a, v]) := putN h1 h2 (by simp) rfl
theorem put2 {f k1 k2 : Str} {c : String} {v a1 a2 : D} (h1 : f ∈ fldOf c) (h2 : f ∉ [k1, k2]) : putF f v (.obj c [k1, k2] [a1, a2]) = some (.obj c [k1, k2, f] [a1, a2, v]) := putN h1 h2 (by simp) rfl
theorem put3 {f k1 k2 k3 : Str} {c : String} {v a1 a2 a3 : D} (h1 : f ∈ fldOf c) (h2 : f ∉ [k1, k2, k3]) : putF f v (.obj c [k1, k2, k3] [a1, a2, a3]) = some (.obj c [k1, k2, k3, f] [a1, a2, a3, v]) := putN h1 h2 (by simp) rfl
theorem put4 {f k1 k2 k3 k4 : Str} {c : String} {v a1 a2 a3 a4 : D} (h1 : f ∈ fldOf c) (h2 : f ∉ [k1, k2, k3, k4]) : putF f v (.obj c [k1, k2, k3, k4] [a1, a2, a3, a4]) = some (.obj c [k1, k2, k3, k4, f] [a1, a2, a3, a4, v]) := putN h1 h2 (by simp) rfl
theorem put5 {f k1 k2 k3 k4 k5 : Str} {c : String} {v a1 a2 a3 a4 a5 : D} (h1 : f ∈ fldOf c) (h2 : f ∉ [k1, k2, k3, k4, k5]) : putF f v (.obj c [k1, k2, k3, k4, k5] [a1, a2, a3, a4, a5]) = some (.obj c [k1, k2, k3, k4, k5, f] [a1, a2, a3, a4, a5, v]) := putN h1 h2 (by simp) rfl
theorem look_h {k : Str} {ks : List Str} {v : D} {vs : List D} : lookD (k :: ks) (v :: vs) k = some v := if_pos rfl
theorem look_t {x k : Str} {ks : List Str} {v : D} {vs : List D} (h : x ≠ k) : lookD (k :: ks) (v :: vs) x = lookD ks vs x := if_neg h
theorem titled_ok {c : String} {w : Wd} (hc : Str.ofString "title" ∈ fldOf c) (hw : isW w = true) : d_Titled_init (.obj c [] []) [.str (S w)] = .ok (.non, .obj c ["title"] [.str (S w)]) := by
  rw [e_Titled_init]
  unfold b_Titled_init
  simp -implicitDefEqProofs (disch := (first | assumption | omega | (simp only [ngs]; done) | decide)) only [ev, R.bind_ok, R.bind_ex, R.st_ok, R.st_ex, R.of_some, List.length_map, isw_ok hw, put0 hc, slfP, noGst, if_true]
/-- a direct base: its title, whether it is shared -/
abbrev BS := Wd × Bool
def bD (b : BS) : D := .obj "Base" ["title", "is_shared"] [.str (S b.1), .bl b.2]
theorem base_ok {w : Wd} {b : Bool} (hw : isW w = true) : d_Base_init (.obj "Base" [] []) [.str (S w), .bl b] = .ok (.non, bD (w, b)) := by
  rw [e_Base_init]
  unfold b_Base_init
  simp -implicitDefEqProofs (disch := (first | assumption | omega | (simp only [ngs]; done) | decide)) only [ev, R.bind_ok, R.bind_ex, R.st_ok, R.st_ex, R.of_some, List.length_map, titled_ok (c := "Base") (by decide +kernel) hw, put1 (c := "Base") (f := "is_shared") (k := "title") (by decide +kernel) (by decide +kernel), slfP, noGst, if_true, bD]
theorem mkbase_ok {w : Wd} {b : Bool} (hw : isW w = true) : mkD "Base" d_Base_init [.str (S w), .bl b] = .ok (bD (w, b)) := by
  simp -implicitDefEqProofs (disch := (first | assumption | omega | (simp only [ngs]; done) | decide)) only [ev, R.bind_ok, R.bind_ex, R.st_ok, R.st_ex, R.of_some, List.length_map, q_mkd, base_ok hw]
/-- Declaring's part of an object -/
theorem declI_ok {c : String} {ks : List Str} {vs : List D} {nd sd : D} {ns ss : List Wd} (hc : Str.ofString "names" ∈ fldOf c ∧ Str.ofString "statics" ∈ fldOf c) (h2 : Str.ofString "names" ∉ ks ∧ Str.ofString "statics" ∉ ks) (h3 : ks.length < 900) (h4 : ks.length = vs.length) (hg : noGst (vs ++ [.tup (stL ns), .tup (stL ss)]) = true)
    (hn : Lt nd (stL ns)) (hs : Lt sd (stL ss)) (hw : ∀ w ∈ ns ++ ss, isW w = true) (nd' : (ns ++ ss).Nodup) (hl : (ns ++ ss).length < 1000) :
    d_Declaring_init (.obj c ks vs) [nd, sd] = .ok (.non, .obj c (ks ++ [Str.ofString "names", Str.ofString "statics"]) (vs ++ [.tup (stL ns), .tup (stL ss)])) := by
  have p1 : putF "names" (.tup (stL ns)) (.obj c ks vs) = some (.obj c (ks ++ [Str.ofString "names"]) (vs ++ [.tup (stL ns)])) := putN hc.1 h2.1 (by omega) h4
  have p2 : putF "statics" (.tup (stL ss)) (.obj c (ks ++ [Str.ofString "names"]) (vs ++ [.tup (stL ns)])) = some (.obj c (ks ++ [Str.ofString "names", Str.ofString "statics"]) (vs ++ [.tup (stL ns), .tup (stL ss)])) := by
    rw [putN hc.2 (by
      intro z
      rcases List.mem_append.mp z with z | z
      · exact h2.2 z
      · exact absurd z (by decide +kernel)) (by simp; omega) (by simp [h4])]
    simp
  obtain ⟨ρ, e⟩ := decl_ok hn hs (fun w hw' => ⟨hw w hw', by have := isW_len (hw w hw'); omega⟩) nd' hl p1 p2
  rw [e_Declaring_init, e]
  simp -implicitDefEqProofs (disch := (first | assumption | omega | (simp only [ngs]; done) | decide)) only [ev, R.bind_ok, R.bind_ex, R.st_ok, R.st_ex, R.of_some, List.length_map, slfP, hg, if_true]
structure Dr where
  t : Wd
  ns : List Wd
  ss : List Wd
  bs : List BS
def drD (r : Dr) : D := .obj "Draft" ["title", "names", "statics", "bases"] [.str (S r.t), .tup (stL r.ns), .tup (stL r.ss), .tup (r.bs.map bD)]
structure DrOk (r : Dr) : Prop where
  t : isW r.t = true
  w : ∀ w ∈ r.ns ++ r.ss, isW w = true
  nd : (r.ns ++ r.ss).Nodup
  nl : (r.ns ++ r.ss).length < 1000
  bd : (r.bs.map Prod.fst).Nodup
  bw : ∀ b ∈ r.bs, isW b.1 = true
  bl : r.bs.length < 1000
theorem bD_title (b : BS) : oFld "title" (bD b) = some (.str (S b.1)) := rfl
theorem bD_sh (b : BS) : oFld "is_shared" (bD b) = some (.bl b.2) := by
  rw [bD, p_fld, look_t (by decide +kernel), look_h]
theorem draft_loop (o0 o1 o2 o3 o4 : Option Slot) : ∀ (bs : List BS) (gs : List Wd), ((gs ++ bs.map Prod.fst).Nodup) → gs.length + bs.length < 1000 →
    forL (gVar 6) [6] b_Draft_init_1 (bs.map bD) [o0, o1, o2, o3, o4, some (.own (.lst (stL gs))), none] = .ok (.nx [o0, o1, o2, o3, o4, some (.own (.lst (stL (gs ++ bs.map Prod.fst)))), none])
  | [], gs, _, _ => by rw [List.map_nil, List.map_nil, List.append_nil]; rfl
  | b :: bs, gs, h, hl => by
    have hn : b.1 ∉ gs := fun z => by
      rw [List.map_cons, List.nodup_append] at h
      exact h.2.2 _ z _ List.mem_cons_self rfl
    have e1 := oIn_lst b.1 gs
    rw [decide_eq_false hn] at e1
    have h' : (gs ++ [b.1] ++ bs.map Prod.fst).Nodup := by rw [List.append_assoc]; exact h
    have ih := draft_loop o0 o1 o2 o3 o4 bs (gs ++ [b.1]) h' (by simp at hl ⊢; omega)
    simp only [List.length_cons] at hl
    have ll : (stL gs).length < 1000000 := by rw [stL_len]; omega
    have e2 : stL gs ++ [.str (S b.1)] = stL (gs ++ [b.1]) := by rw [stL_app]; rfl
    have st : b_Draft_init_1 [o0, o1, o2, o3, o4, some (.own (.lst (stL gs))), some (.val (bD b))] = .ok (.nx [o0, o1, o2, o3, o4, some (.own (.lst (stL (gs ++ [b.1])))), some (.val (bD b))]) := by
      unfold b_Draft_init_1
      simp -implicitDefEqProofs (disch := (first | assumption | omega | (simp only [ngs]; done) | decide)) only [ev, R.bind_ok, R.bind_ex, R.st_ok, R.st_ex, R.of_some, List.length_map, bD_title, e1, e2]
    rw [List.map_cons, f_c]
    simp -implicitDefEqProofs (disch := (first | assumption | omega | (simp only [ngs]; done) | decide)) only [ev, R.bind_ok, R.bind_ex, R.st_ok, R.st_ex, R.of_some, List.length_map, st, ih]
    rw [List.map_cons, List.append_assoc]
    rfl
theorem drInit_ok {r : Dr} {nd sd bd : D} (h : DrOk r) (hn : Lt nd (stL r.ns)) (hs : Lt sd (stL r.ss)) (hb : Lt bd (r.bs.map bD)) : d_Draft_init (.obj "Draft" [] []) [.str (S r.t), nd, sd, bd] = .ok (.non, drD r) := by
  rw [e_Draft_init]
  unfold b_Draft_init
  have e1 := declI_ok (c := "Draft") (ks := ["title"]) (vs := [.str (S r.t)]) (nd := nd) (sd := sd) (by decide +kernel) (by decide +kernel) (by decide) rfl rfl hn hs h.w h.nd h.nl
  have hi : iterD bd = some (r.bs.map bD) := by rcases hb with rfl | rfl <;> rfl
  have lp := fun o0 o1 o2 o3 o4 => draft_loop o0 o1 o2 o3 o4 r.bs [] (by simpa using h.bd) (by simpa using h.bl)
  rw [show stL [] = [] from rfl] at lp
  simp -implicitDefEqProofs (disch := (first | assumption | omega | (simp only [ngs]; done) | decide)) only [ev, R.bind_ok, R.bind_ex, R.st_ok, R.st_ex, R.of_some, List.length_map, titled_ok (c := "Draft") (by decide +kernel) h.t, e1, List.cons_append, List.nil_append, hi, lp, hb.tuple, put3 (c := "Draft") (f := "bases") (k1 := "title") (k2 := "names") (k3 := "statics") (by decide +kernel) (by decide +kernel), slfP, noGst, if_true, drD]
theorem mkdr_ok {r : Dr} {nd sd bd : D} (h : DrOk r) (hn : Lt nd (stL r.ns)) (hs : Lt sd (stL r.ss)) (hb : Lt bd (r.bs.map bD)) : mkD "Draft" d_Draft_init [.str (S r.t), nd, sd, bd] = .ok (drD r) := by
  simp -implicitDefEqProofs (disch := (first | assumption | omega | (simp only [ngs]; done) | decide)) only [ev, R.bind_ok, R.bind_ex, R.st_ok, R.st_ex, R.of_some, List.length_map, q_mkd, drInit_ok h hn hs hb]
theorem drD_t (r : Dr) : oFld "title" (drD r) = some (.str (S r.t)) := rfl
theorem drD_n (r : Dr) : oFld "names" (drD r) = some (.tup (stL r.ns)) := by
  rw [drD, p_fld, look_t (by decide +kernel), look_h]
theorem drD_s (r : Dr) : oFld "statics" (drD r) = some (.tup (stL r.ss)) := by
  rw [drD, p_fld, look_t (by decide +kernel), look_t (by decide +kernel), look_h]
theorem drD_b (r : Dr) : oFld "bases" (drD r) = some (.tup (r.bs.map bD)) := by
  rw [drD, p_fld, look_t (by decide +kernel), look_t (by decide +kernel), look_t (by decide +kernel), look_h]
end Tw

set_option maxHeartbeats 2000000
namespace Tw
open PySem
structure CL where
  r : Dr
  ab : List Wd
  sh : List Wd
def kiD (c : CL) : D := .obj "Kind" ["title", "names", "statics", "bases", "above", "shared_bases"] [.str (S c.r.t), .tup (stL c.r.ns), .tup (stL c.r.ss), .tup (c.r.bs.map bD), .tup (stL c.ab), .tup (stL c.sh)]
/-- d shows the draft r -/
structure DLike (d : D) (r : Dr) : Prop where
  t : oFld "title" d = some (.str (S r.t))
  n : oFld "names" d = some (.tup (stL r.ns))
  s : oFld "statics" d = some (.tup (stL r.ss))
  b : oFld "bases" d = some (.tup (r.bs.map bD))
theorem drD_like (r : Dr) : DLike (drD r) r := ⟨drD_t r, drD_n r, drD_s r, drD_b r⟩
theorem ki_t (c : CL) : oFld "title" (kiD c) = some (.str (S c.r.t)) := by rw [kiD, p_fld, look_h]
theorem ki_b (c : CL) : oFld "bases" (kiD c) = some (.tup (c.r.bs.map bD)) := by rw [kiD, p_fld, look_t (by decide +kernel), look_t (by decide +kernel), look_t (by decide +kernel), look_h]
theorem ki_a (c : CL) : oFld "above" (kiD c) = some (.tup (stL c.ab)) := by rw [kiD, p_fld, look_t (by decide +kernel), look_t (by decide +kernel), look_t (by decide +kernel), look_t (by decide +kernel), look_h]
theorem ki_sh (c : CL) : oFld "shared_bases" (kiD c) = some (.tup (stL c.sh)) := by rw [kiD, p_fld, look_t (by decide +kernel), look_t (by decide +kernel), look_t (by decide +kernel), look_t (by decide +kernel), look_t (by decide +kernel), look_h]
theorem kiInit_ok {d : D} {c : CL} (h : DrOk c.r) (l : DLike d c.r) : d_Kind_init (.obj "Kind" [] []) [d, .tup (stL c.ab), .tup (stL c.sh)] = .ok (.non, kiD c) := by
  rw [e_Kind_init]
  unfold b_Kind_init
  have e1 := declI_ok (c := "Kind") (ks := ["title"]) (vs := [.str (S c.r.t)]) (nd := .tup (stL c.r.ns)) (sd := .tup (stL c.r.ss)) (by decide +kernel) (by decide +kernel) (by decide) rfl rfl (.inr rfl) (.inr rfl) h.w h.nd h.nl
  simp -implicitDefEqProofs (disch := (first | assumption | omega | (simp only [ngs]; done) | decide)) only [ev, R.bind_ok, R.bind_ex, R.st_ok, R.st_ex, R.of_some, List.length_map, l.t, l.n, l.s, l.b, titled_ok (c := "Kind") (by decide +kernel) h.t, e1, List.cons_append, List.nil_append,
    put3 (c := "Kind") (f := "bases") (k1 := "title") (k2 := "names") (k3 := "statics") (by decide +kernel) (by decide +kernel),
    put4 (c := "Kind") (f := "above") (k1 := "title") (k2 := "names") (k3 := "statics") (k4 := "bases") (by decide +kernel) (by decide +kernel),
    put5 (c := "Kind") (f := "shared_bases") (k1 := "title") (k2 := "names") (k3 := "statics") (k4 := "bases") (k5 := "above") (by decide +kernel) (by decide +kernel), slfP, noGst, if_true, kiD]
theorem mkki_ok {d : D} {c : CL} (h : DrOk c.r) (l : DLike d c.r) : mkD "Kind" d_Kind_init [d, .tup (stL c.ab), .tup (stL c.sh)] = .ok (kiD c) := by
  simp -implicitDefEqProofs (disch := (first | assumption | omega | (simp only [ngs]; done) | decide)) only [ev, R.bind_ok, R.bind_ex, R.st_ok, R.st_ex, R.of_some, List.length_map, q_mkd, kiInit_ok h l]
def trD (A : List Wd) : D := .dct (A.map S) (A.map fun _ => .bl true)
def putW (x : Wd) (A : List Wd) : List Wd := if x ∈ A then A else A ++ [x]
theorem mem_putW {x y : Wd} {A : List Wd} : x ∈ putW y A ↔ x ∈ A ∨ x = y := by
  unfold putW
  by_cases h : y ∈ A
  · rw [if_pos h]
    exact ⟨.inl, fun z => z.elim id fun e => e ▸ h⟩
  · rw [if_neg h, List.mem_append, List.mem_singleton]
theorem putW_len {x : Wd} {A : List Wd} : (putW x A).length ≤ A.length + 1 := by
  unfold putW
  split <;> simp
theorem mem_S' {w : Wd} {ws : List Wd} : S w ∈ ws.map S ↔ w ∈ ws := mem_S
theorem rep_true (x : Str) : ∀ ks : List Str, repDv x (.bl true) ks (ks.map fun _ => .bl true) = ks.map fun _ => .bl true
  | [] => rfl
  | k :: ks => by
    show (if k = x then D.bl true else D.bl true) :: repDv x (.bl true) ks (ks.map fun _ => .bl true) = _
    rw [rep_true x ks, ite_self]
    rfl
theorem trD_put (x : Wd) (A : List Wd) : D.dct (dPutK (S x) (A.map S)) (dPutV (S x) (.bl true) (A.map S) (A.map fun _ => .bl true)) = trD (putW x A) := by
  unfold trD putW dPutK dPutV
  by_cases h : x ∈ A
  · rw [if_pos (mem_S'.mpr h), if_pos (mem_S'.mpr h), if_pos h]
    have := rep_true (S x) (A.map S)
    rw [List.map_map] at this
    rw [show (A.map fun _ => D.bl true) = A.map ((fun _ => D.bl true) ∘ S) from rfl, this]
  · rw [if_neg (fun z => h (mem_S'.mp z)), if_neg (fun z => h (mem_S'.mp z)), if_neg h, List.map_append, List.map_append]
    rfl
theorem look_some : ∀ (ks : List Str) (vs : List D) (x : Str), ks.length = vs.length → (lookD ks vs x).isSome = decide (x ∈ ks)
  | [], vs, x, _ => by cases vs <;> rfl
  | k :: ks, [], x, h => by simp at h
  | k :: ks, v :: vs, x, h => by
    by_cases e : x = k
    · subst e; rw [look_h]; simp
    · rw [look_t e, look_some ks vs x (by simpa using h)]
      simp [e]
theorem oIn_dct {ks : List Wd} {vs : List D} {x : Wd} (h : ks.length = vs.length) : oIn (.str (S x)) (.dct (ks.map S) vs) = some (.bl (decide (x ∈ ks))) := by
  show (some (lookD (ks.map S) vs (S x)).isSome).bind _ = _
  rw [look_some _ _ _ (by rw [List.length_map]; exact h)]
  have : decide (S x ∈ ks.map S) = decide (x ∈ ks) := by rw [decide_eq_decide]; exact mem_S'
  rw [this]
  rfl
theorem oIn_trD (x : Wd) (A : List Wd) : oIn (.str (S x)) (trD A) = some (.bl (decide (x ∈ A))) := oIn_dct (by rw [List.length_map])
theorem oNotIn_of {x y : D} {b : Bool} (h : oIn x y = some (.bl b)) : oNotIn x y = some (.bl (!b)) := by
  unfold oIn at h
  unfold oNotIn
  cases e : inD x y with
  | none => rw [e] at h; cases h
  | some c =>
    rw [e] at h
    have : c = b := by
      have h' : some (D.bl c) = some (D.bl b) := h
      cases h'
      rfl
    rw [this]
    rfl
/-- the places of the titles -/
def plD (ts : List Wd) : D := .dct (ts.map S) ((List.range ts.length).map fun i : Nat => .int i)
theorem oIn_plD (x : Wd) (ts : List Wd) : oIn (.str (S x)) (plD ts) = some (.bl (decide (x ∈ ts))) := oIn_dct (by rw [List.length_map, List.length_range])
theorem idx_ne {x t : Wd} {ts : List Wd} (h : ¬ t = x) : (t :: ts).idxOf x = ts.idxOf x + 1 := by
  rw [List.idxOf_cons, show (t == x) = false from beq_eq_false_iff_ne.mpr h]
  rfl
theorem look_pl (x : Wd) : ∀ (ts : List Wd) (k : Nat), x ∈ ts → lookD (ts.map S) ((List.range' k ts.length).map fun i : Nat => .int i) (S x) = some (.int ((k + ts.idxOf x : Nat) : Int))
  | [], k, h => by cases h
  | t :: ts, k, h => by
    rw [List.length_cons, List.range'_succ, List.map_cons, List.map_cons]
    by_cases e : x = t
    · subst e
      rw [look_h, List.idxOf_cons_self, Nat.add_zero]
    · have e' : S x ≠ S t := fun z => e (S_inj z)
      rw [look_t e', look_pl x ts (k + 1) ((List.mem_cons.mp h).resolve_left e), idx_ne (fun z => e z.symm)]
      congr 2
      omega
theorem oIx_plD {x : Wd} {ts : List Wd} (h : x ∈ ts) : oIx (plD ts) (.str (S x)) = some (.int ((ts.idxOf x : Nat) : Int)) := by
  rw [plD, p_ixd, List.range_eq_range', look_pl x ts 0 h, Nat.zero_add]
theorem plD_put {x : Wd} {ts : List Wd} (h : x ∉ ts) : D.dct (dPutK (S x) (ts.map S)) (dPutV (S x) (.int ts.length) (ts.map S) ((List.range ts.length).map fun i : Nat => .int i)) = plD (ts ++ [x]) := by
  unfold plD dPutK dPutV
  rw [if_neg (fun z => h (mem_S'.mp z)), if_neg (fun z => h (mem_S'.mp z)), List.map_append, List.length_append, List.length_singleton, List.range_succ, List.map_append]
  rfl
def ttl (L : List CL) : List Wd := L.map fun c => c.r.t
def fnd (L : List CL) (x : Wd) : Option CL := L.find? fun c => c.r.t == x
theorem fnd_spec {x : Wd} : ∀ {L : List CL}, x ∈ ttl L → ∃ k, fnd L x = some k ∧ k.r.t = x ∧ k ∈ L ∧ L[(ttl L).idxOf x]? = some k
  | [], h => by cases h
  | c :: L, h => by
    by_cases e : c.r.t = x
    · refine ⟨c, ?_, e, List.mem_cons_self, ?_⟩
      · unfold fnd; rw [List.find?_cons, show (c.r.t == x) = true by rw [e]; exact beq_self_eq_true x]
      · unfold ttl; rw [List.map_cons, e, List.idxOf_cons_self]; rfl
    · have hx : x ∈ ttl L := (List.mem_cons.mp (show x ∈ c.r.t :: ttl L from h)).resolve_left fun z => e z.symm
      obtain ⟨k, h1, h2, h3, h4⟩ := fnd_spec hx
      refine ⟨k, ?_, h2, List.mem_cons_of_mem _ h3, ?_⟩
      · unfold fnd at h1 ⊢; rw [List.find?_cons, show (c.r.t == x) = false from beq_eq_false_iff_ne.mpr e]; exact h1
      · unfold ttl at h4 ⊢; rw [List.map_cons, idx_ne e, List.getElem?_cons_succ]; exact h4
def abOf (L : List CL) (x : Wd) : List Wd := match fnd L x with | some k => k.ab | none => []
def shOf (L : List CL) (x : Wd) : List Wd := match fnd L x with | some k => k.sh | none => []
/-- what the bases bs bring above -/
def inAb (L : List CL) (bs : List BS) (x : Wd) : Prop := ∃ b ∈ bs, x = b.1 ∨ x ∈ abOf L b.1
def inSh (L : List CL) (bs : List BS) (x : Wd) : Prop := ∃ b ∈ bs, (b.2 = true ∧ x = b.1) ∨ x ∈ shOf L b.1
instance (L : List CL) (bs : List BS) (x : Wd) : Decidable (inAb L bs x) := by unfold inAb; infer_instance
instance (L : List CL) (bs : List BS) (x : Wd) : Decidable (inSh L bs x) := by unfold inSh; infer_instance
def mkCL (L : List CL) (r : Dr) : CL := ⟨r, (ttl L).filter fun x => decide (inAb L r.bs x), (ttl L).filter fun x => decide (inSh L r.bs x)⟩
def nmAdd (nm ws : List Wd) : List Wd := ws.foldl (fun nm x => putW x nm) nm
/-- the draft may come behind L -/
structure AdOk (L : List CL) (r : Dr) : Prop where
  ok : DrOk r
  new : r.t ∉ ttl L
  bs : ∀ b ∈ r.bs, b.1 ∈ ttl L
def libS (nm : List Wd) : D := .obj "Library" ["kinds", "places", "names"] [.gst 12, .gst 13, .tup (stL nm)]
def liD (L : List CL) (nm : List Wd) : D := .obj "Library" ["kinds", "places", "names"] [.lst (L.map kiD), plD (ttl L), .tup (stL nm)]
end Tw

set_option maxHeartbeats 2000000
namespace Tw
open PySem
section
variable {i j : Nat} {f : Str} {a k e : DE} {ρ : DEnv} {v d : D} {ks : List Str} {vs l : List D} {o : Option Slot} {as : DA}
def putdS (i : Nat) (k : DE) (v : D) (ρ : DEnv) (o : Option Slot) : R Out := match o with
  | some (.own (.dct ks vs)) => (k ρ).st ρ fun x => match x with
    | .str s => if ks.length < lineD then .ok (.nx (ρ.set i (some (.own (.dct (dPutK s ks) (dPutV s v ks vs)))))) else .no
    | _ => .no
  | _ => .no
theorem q_putd : sPutD i k e ρ = (e ρ).st ρ fun v => putdS i k v ρ (getO i ρ) := by
  unfold sPutD putdS getO
  congr 1
  funext v
  cases h : ρ[i]? with
  | none => rfl
  | some o => cases o with
    | none => rfl
    | some o => cases o <;> first | rfl | (rename_i d; cases d <;> rfl)
def putd2 (i : Nat) (v : D) (ks : List Str) (vs : List D) (ρ : DEnv) (x : D) : R Out := match x with
  | .str s => ltS ks.length (.ok (.nx (ρ.set i (some (.own (.dct (dPutK s ks) (dPutV s v ks vs)))))))
  | _ => .no
theorem pd_d : putdS i k v ρ (some (.own (.dct ks vs))) = (k ρ).st ρ (putd2 i v ks vs ρ) := by
  show R.st _ _ _ = R.st _ _ _
  congr 1
theorem pd_s {s : Str} : putd2 i v ks vs ρ (.str s) = ltS ks.length (.ok (.nx (ρ.set i (some (.own (.dct (dPutK s ks) (dPutV s v ks vs))))))) := rfl
end
abbrev eA (nm : List Wd) (d : D) (A B : List Wd) (o4 o5 o6 o7 o8 o9 o10 : Option Slot) (K P : D) : DEnv :=
  [some (.slf (libS nm)), some (.val d), some (.own (trD A)), some (.own (trD B)), o4, o5, o6, o7, o8, o9, o10, none, some (.gho K), some (.gho P)]
section
variable {nm : List Wd} {d : D} {A B : List Wd} {o1 o2 o3 o4 o5 o6 o7 o8 o9 o10 o11 : Option Slot} {K P : D}
theorem f_kinds : fldG 0 "kinds" [some (.slf (libS nm)), o1, o2, o3, o4, o5, o6, o7, o8, o9, o10, o11, some (.gho K), some (.gho P)] = some (12, K) := by
  have : oFld "kinds" (libS nm) = some (.gst 12) := by rw [libS, p_fld, look_h]
  show (match (oFld "kinds" (libS nm)).bind gD1 with | some j => _ | none => none) = _
  rw [this]
  rfl
theorem f_places : fldG 0 "places" [some (.slf (libS nm)), o1, o2, o3, o4, o5, o6, o7, o8, o9, o10, o11, some (.gho K), some (.gho P)] = some (13, P) := by
  have : oFld "places" (libS nm) = some (.gst 13) := by rw [libS, p_fld, look_t (by decide +kernel), look_h]
  show (match (oFld "places" (libS nm)).bind gD1 with | some j => _ | none => none) = _
  rw [this]
  rfl
theorem s_kinds : eSelf 0 "kinds" [some (.slf (libS nm)), o1, o2, o3, o4, o5, o6, o7, o8, o9, o10, o11, some (.gho K), some (.gho P)] = .ok K := by
  unfold eSelf
  rw [f_kinds]
theorem s_places : eSelf 0 "places" [some (.slf (libS nm)), o1, o2, o3, o4, o5, o6, o7, o8, o9, o10, o11, some (.gho K), some (.gho P)] = .ok P := by
  unfold eSelf
  rw [f_places]
theorem s_names : eSelf 0 "names" [some (.slf (libS nm)), o1, o2, o3, o4, o5, o6, o7, o8, o9, o10, o11, some (.gho K), some (.gho P)] = .ok (.tup (stL nm)) := by
  have e : oFld "names" (libS nm) = some (.tup (stL nm)) := by rw [libS, p_fld, look_t (by decide +kernel), look_t (by decide +kernel), look_h]
  have e2 : fldG 0 "names" [some (.slf (libS nm)), o1, o2, o3, o4, o5, o6, o7, o8, o9, o10, o11, some (.gho K), some (.gho P)] = none := by
    unfold fldG
    simp only [List.getElem?_cons_zero, e, Option.bind_some, gD1]
  unfold eSelf
  simp only [e2, List.getElem?_cons_zero, e]
/-- above[title] = True -/
theorem put_a {e : DE} {x : Wd} (h : A.length < 1000000) (he : e (eA nm d A B o4 o5 o6 o7 o8 o9 o10 K P) = .ok (.str (S x))) : sPutD 2 e (eC (.bl true)) (eA nm d A B o4 o5 o6 o7 o8 o9 o10 K P) = .ok (.nx (eA nm d (putW x A) B o4 o5 o6 o7 o8 o9 o10 K P)) := by
  rw [q_putd]
  have e1 : ∀ ρ, putdS 2 e (.bl true) ρ (some (.own (trD A))) = (e ρ).st ρ (putd2 2 (.bl true) (A.map S) (A.map fun _ => .bl true) ρ) := fun ρ => pd_d
  simp -implicitDefEqProofs (disch := (first | assumption | omega | (simp only [ngs]; done) | decide)) only [ev, R.bind_ok, R.bind_ex, R.st_ok, R.st_ex, R.of_some, List.length_map, e1, he, pd_s, trD_put]
theorem put_b {e : DE} {x : Wd} (h : B.length < 1000000) (he : e (eA nm d A B o4 o5 o6 o7 o8 o9 o10 K P) = .ok (.str (S x))) : sPutD 3 e (eC (.bl true)) (eA nm d A B o4 o5 o6 o7 o8 o9 o10 K P) = .ok (.nx (eA nm d A (putW x B) o4 o5 o6 o7 o8 o9 o10 K P)) := by
  rw [q_putd]
  have e1 : ∀ ρ, putdS 3 e (.bl true) ρ (some (.own (trD B))) = (e ρ).st ρ (putd2 3 (.bl true) (B.map S) (B.map fun _ => .bl true) ρ) := fun ρ => pd_d
  simp -implicitDefEqProofs (disch := (first | assumption | omega | (simp only [ngs]; done) | decide)) only [ev, R.bind_ok, R.bind_ex, R.st_ok, R.st_ex, R.of_some, List.length_map, e1, he, pd_s, trD_put]
end
def putsW (xs A : List Wd) : List Wd := xs.foldl (fun A x => putW x A) A
theorem mem_putsW {x : Wd} : ∀ {xs A : List Wd}, x ∈ putsW xs A ↔ x ∈ A ∨ x ∈ xs
  | [], A => by unfold putsW; simp
  | y :: xs, A => by
    show x ∈ putsW xs (putW y A) ↔ _
    rw [mem_putsW, mem_putW, List.mem_cons, or_assoc]
theorem putsW_len : ∀ {xs A : List Wd}, (putsW xs A).length ≤ A.length + xs.length
  | [], A => Nat.le_refl _
  | y :: xs, A => by
    have := putsW_len (xs := xs) (A := putW y A)
    have := putW_len (x := y) (A := A)
    show (putsW xs (putW y A)).length ≤ _
    rw [List.length_cons]
    omega
section
variable {nm : List Wd} {d : D} {o4 o5 o7 o8 o9 o10 : Option Slot} {K P : D}
theorem loop_a (B : List Wd) : ∀ (xs A : List Wd), A.length + xs.length < 1000000 → forL (gVar 6) [6] b_Library_admit_1 (stL xs) (eA nm d A B o4 o5 none o7 o8 o9 o10 K P) = .ok (.nx (eA nm d (putsW xs A) B o4 o5 none o7 o8 o9 o10 K P))
  | [], A, _ => rfl
  | x :: xs, A, h => by
    simp only [List.length_cons] at h
    have ih := loop_a B xs (putW x A) (by have := putW_len (x := x) (A := A); omega)
    have st : b_Library_admit_1 (eA nm d A B o4 o5 (some (.val (.str (S x)))) o7 o8 o9 o10 K P) = .ok (.nx (eA nm d (putW x A) B o4 o5 (some (.val (.str (S x)))) o7 o8 o9 o10 K P)) := put_a (by omega) rfl
    show forL (gVar 6) [6] b_Library_admit_1 (.str (S x) :: stL xs) _ = _
    rw [f_c]
    simp -implicitDefEqProofs (disch := (first | assumption | omega | (simp only [ngs]; done) | decide)) only [ev, R.bind_ok, R.bind_ex, R.st_ok, R.st_ex, R.of_some, List.length_map, st, ih]
    rfl
theorem loop_b (A : List Wd) : ∀ (xs B : List Wd), B.length + xs.length < 1000000 → forL (gVar 6) [6] b_Library_admit_2 (stL xs) (eA nm d A B o4 o5 none o7 o8 o9 o10 K P) = .ok (.nx (eA nm d A (putsW xs B) o4 o5 none o7 o8 o9 o10 K P))
  | [], B, _ => rfl
  | x :: xs, B, h => by
    simp only [List.length_cons] at h
    have ih := loop_b A xs (putW x B) (by have := putW_len (x := x) (A := B); omega)
    have st : b_Library_admit_2 (eA nm d A B o4 o5 (some (.val (.str (S x)))) o7 o8 o9 o10 K P) = .ok (.nx (eA nm d A (putW x B) o4 o5 (some (.val (.str (S x)))) o7 o8 o9 o10 K P)) := put_b (by omega) rfl
    show forL (gVar 6) [6] b_Library_admit_2 (.str (S x) :: stL xs) _ = _
    rw [f_c]
    simp -implicitDefEqProofs (disch := (first | assumption | omega | (simp only [ngs]; done) | decide)) only [ev, R.bind_ok, R.bind_ex, R.st_ok, R.st_ex, R.of_some, List.length_map, st, ih]
    rfl
end
end Tw

set_option maxHeartbeats 2000000
namespace Tw
open PySem
theorem putsW_app (xs ys A : List Wd) : putsW (xs ++ ys) A = putsW ys (putsW xs A) := List.foldl_append
def puA (L : List CL) (bs : List BS) : List Wd := bs.flatMap fun b => b.1 :: abOf L b.1
def puB (L : List CL) (bs : List BS) : List Wd := bs.flatMap fun b => shOf L b.1 ++ (if b.2 then [b.1] else [])
theorem mem_puA {L : List CL} {bs : List BS} {x : Wd} : x ∈ puA L bs ↔ inAb L bs x := by
  unfold puA inAb
  simp only [List.mem_flatMap, List.mem_cons]
theorem mem_puB {L : List CL} {bs : List BS} {x : Wd} : x ∈ puB L bs ↔ inSh L bs x := by
  unfold puB inSh
  simp only [List.mem_flatMap, List.mem_append]
  constructor
  · rintro ⟨b, hb, h⟩
    refine ⟨b, hb, ?_⟩
    rcases h with h | h
    · exact .inr h
    · by_cases e : b.2 = true
      · rw [if_pos e] at h; exact .inl ⟨e, List.mem_singleton.mp h⟩
      · rw [if_neg e] at h; cases h
  · rintro ⟨b, hb, h⟩
    refine ⟨b, hb, ?_⟩
    rcases h with ⟨e, h⟩ | h
    · rw [if_pos e]; exact .inr (List.mem_singleton.mpr h)
    · exact .inl h
/-- small enough -/
def Sm (L : List CL) : Prop := L.length ≤ 100 ∧ ∀ c ∈ L, c.ab.length ≤ 100 ∧ c.sh.length ≤ 100
theorem Sm.ab {L : List CL} (h : Sm L) (x : Wd) : (abOf L x).length ≤ 100 := by
  unfold abOf
  cases e : fnd L x with
  | none => exact Nat.zero_le _
  | some k => exact (h.2 k (List.mem_of_find?_eq_some e)).1
theorem Sm.sh {L : List CL} (h : Sm L) (x : Wd) : (shOf L x).length ≤ 100 := by
  unfold shOf
  cases e : fnd L x with
  | none => exact Nat.zero_le _
  | some k => exact (h.2 k (List.mem_of_find?_eq_some e)).2
section
variable {nm : List Wd} {d : D} {o7 o8 o9 o10 : Option Slot} {L : List CL}
theorem admit_step {b : BS} {A B : List Wd} (hs : Sm L) (hb : b.1 ∈ ttl L) (hA : A.length + 200 < 1000000) (hB : B.length + 200 < 1000000) :
    ∃ k, b_Library_admit_3 (eA nm d A B (some (.val (bD b))) none none o7 o8 o9 o10 (.lst (L.map kiD)) (plD (ttl L))) =
      .ok (.nx (eA nm d (putsW (b.1 :: abOf L b.1) A) (putsW (shOf L b.1 ++ (if b.2 then [b.1] else [])) B) (some (.val (bD b))) (some (.val (kiD k))) none o7 o8 o9 o10 (.lst (L.map kiD)) (plD (ttl L)))) := by
  obtain ⟨k, h1, h2, h3, h4⟩ := fnd_spec hb
  have ea : abOf L b.1 = k.ab := by unfold abOf; rw [h1]
  have es : shOf L b.1 = k.sh := by unfold shOf; rw [h1]
  have hk := hs.2 k h3
  refine ⟨k, ?_⟩
  have n1 : oNotIn (.str (S b.1)) (plD (ttl L)) = some (.bl false) := by
    have := oNotIn_of (oIn_plD b.1 (ttl L))
    rw [decide_eq_true hb] at this
    exact this
  have hix := oIx_plD hb
  have hki : (L.map kiD)[(ttl L).idxOf b.1]? = some (kiD k) := by rw [List.getElem?_map, h4]; rfl
  have l1 := putW_len (x := b.1) (A := A)
  have la := fun o4 o5 => loop_a (nm := nm) (d := d) (o4 := o4) (o5 := o5) (o7 := o7) (o8 := o8) (o9 := o9) (o10 := o10) (K := .lst (L.map kiD)) (P := plD (ttl L)) B k.ab (putW b.1 A) (by omega)
  have lb := fun o4 o5 => loop_b (nm := nm) (d := d) (o4 := o4) (o5 := o5) (o7 := o7) (o8 := o8) (o9 := o9) (o10 := o10) (K := .lst (L.map kiD)) (P := plD (ttl L)) (putsW k.ab (putW b.1 A)) k.sh B (by omega)
  have l2 := putsW_len (xs := k.sh) (A := B)
  have p1 : sPutD 2 (e1 (oFld "title") (eVar 4)) (eC (.bl true)) (eA nm d A B (some (.val (bD b))) (some (.val (kiD k))) none o7 o8 o9 o10 (.lst (L.map kiD)) (plD (ttl L))) = .ok (.nx (eA nm d (putW b.1 A) B (some (.val (bD b))) (some (.val (kiD k))) none o7 o8 o9 o10 (.lst (L.map kiD)) (plD (ttl L)))) :=
    put_a (by omega) (by simp -implicitDefEqProofs (disch := (first | assumption | omega | (simp only [ngs]; done) | decide)) only [ev, R.bind_ok, R.bind_ex, R.st_ok, R.st_ex, R.of_some, List.length_map, bD_title])
  have p2 : sPutD 3 (e1 (oFld "title") (eVar 4)) (eC (.bl true)) (eA nm d (putsW k.ab (putW b.1 A)) (putsW k.sh B) (some (.val (bD b))) (some (.val (kiD k))) none o7 o8 o9 o10 (.lst (L.map kiD)) (plD (ttl L))) = .ok (.nx (eA nm d (putsW k.ab (putW b.1 A)) (putW b.1 (putsW k.sh B)) (some (.val (bD b))) (some (.val (kiD k))) none o7 o8 o9 o10 (.lst (L.map kiD)) (plD (ttl L)))) :=
    put_b (by omega) (by simp -implicitDefEqProofs (disch := (first | assumption | omega | (simp only [ngs]; done) | decide)) only [ev, R.bind_ok, R.bind_ex, R.st_ok, R.st_ex, R.of_some, List.length_map, bD_title])
  unfold b_Library_admit_3
  rw [ea, es]
  cases hb2 : b.2 with
  | true =>
    simp -implicitDefEqProofs (disch := (first | assumption | omega | (simp only [ngs]; done) | decide)) only [ev, R.bind_ok, R.bind_ex, R.st_ok, R.st_ex, R.of_some, List.length_map, bD_title, bD_sh, s_places, s_kinds, n1, hix, hki, p1, p2, ki_a, ki_sh, la, lb, hb2]
    rw [if_pos trivial, putsW_app]
    rfl
  | false =>
    simp -implicitDefEqProofs (disch := (first | assumption | omega | (simp only [ngs]; done) | decide)) only [ev, R.bind_ok, R.bind_ex, R.st_ok, R.st_ex, R.of_some, List.length_map, bD_title, bD_sh, s_places, s_kinds, n1, hix, hki, p1, ki_a, ki_sh, la, lb, hb2]
    rw [if_neg (by decide), List.append_nil]
    rfl
theorem admit_loop (hs : Sm L) : ∀ (bs : List BS) (A B : List Wd), (∀ b ∈ bs, b.1 ∈ ttl L) → A.length + bs.length * 200 + 200 < 1000000 → B.length + bs.length * 200 + 200 < 1000000 →
    forL (gVar 4) [4, 5, 6] b_Library_admit_3 (bs.map bD) (eA nm d A B none none none o7 o8 o9 o10 (.lst (L.map kiD)) (plD (ttl L))) =
      .ok (.nx (eA nm d (putsW (puA L bs) A) (putsW (puB L bs) B) none none none o7 o8 o9 o10 (.lst (L.map kiD)) (plD (ttl L))))
  | [], A, B, _, _, _ => rfl
  | b :: bs, A, B, hb, hA, hB => by
    simp only [List.length_cons] at hA hB
    obtain ⟨k, st⟩ := admit_step (nm := nm) (d := d) (o7 := o7) (o8 := o8) (o9 := o9) (o10 := o10) (A := A) (B := B) hs (hb b List.mem_cons_self) (by omega) (by omega)
    have la := hs.ab b.1
    have lb := hs.sh b.1
    have l1 := putsW_len (xs := b.1 :: abOf L b.1) (A := A)
    have l2 := putsW_len (xs := shOf L b.1 ++ (if b.2 then [b.1] else [])) (A := B)
    have l3 : (if b.2 then [b.1] else []).length ≤ 1 := by split <;> simp
    rw [List.length_append] at l2
    rw [List.length_cons] at l1
    have ih := admit_loop hs bs (putsW (b.1 :: abOf L b.1) A) (putsW (shOf L b.1 ++ (if b.2 then [b.1] else [])) B) (fun x hx => hb x (List.mem_cons_of_mem _ hx)) (by omega) (by omega)
    rw [List.map_cons, f_c]
    simp -implicitDefEqProofs (disch := (first | assumption | omega | (simp only [ngs]; done) | decide)) only [ev, R.bind_ok, R.bind_ex, R.st_ok, R.st_ex, R.of_some, List.length_map, st, ih]
    unfold puA puB
    rw [List.flatMap_cons, List.flatMap_cons, putsW_app (b.1 :: abOf L b.1), putsW_app (shOf L b.1 ++ (if b.2 then [b.1] else []))]
end
section
variable {d : D} {o2 o3 o4 o5 o6 o7 o8 o9 : Option Slot} {K P : D}
theorem put_names (nm nm' : List Wd) : putF "names" (.tup (stL nm')) (libS nm) = some (libS nm') := by
  unfold libS
  rw [putF_ok (by decide) (by decide +kernel)]
  have k1 : putDk (Str.ofString "names") [Str.ofString "kinds", Str.ofString "places", Str.ofString "names"] = [Str.ofString "kinds", Str.ofString "places", Str.ofString "names"] := by decide +kernel
  rw [k1]
  have n1 : Str.ofString "names" ≠ Str.ofString "kinds" := by decide +kernel
  have n2 : Str.ofString "names" ≠ Str.ofString "places" := by decide +kernel
  simp only [putDv, if_neg n1, if_neg n2, if_true]
theorem loop_names : ∀ (xs nm : List Wd), nm.length + xs.length < 1000000 →
    forL (gVar 10) [10] b_Library_admit_4 (stL xs) [some (.slf (libS nm)), some (.val d), o2, o3, o4, o5, o6, o7, o8, o9, none, none, some (.gho K), some (.gho P)] =
      .ok (.nx [some (.slf (libS (nmAdd nm xs))), some (.val d), o2, o3, o4, o5, o6, o7, o8, o9, none, none, some (.gho K), some (.gho P)])
  | [], nm, _ => rfl
  | x :: xs, nm, h => by
    simp only [List.length_cons] at h
    have hw := putW_len (x := x) (A := nm)
    have ih := loop_names xs (putW x nm) (by omega)
    have n1 := oNotIn_of (oIn_tup x nm)
    have st : b_Library_admit_4 [some (.slf (libS nm)), some (.val d), o2, o3, o4, o5, o6, o7, o8, o9, some (.val (.str (S x))), none, some (.gho K), some (.gho P)] =
        .ok (.nx [some (.slf (libS (putW x nm))), some (.val d), o2, o3, o4, o5, o6, o7, o8, o9, some (.val (.str (S x))), none, some (.gho K), some (.gho P)]) := by
      unfold b_Library_admit_4 putW
      by_cases hx : x ∈ nm
      · rw [decide_eq_true hx] at n1
        rw [if_pos hx]
        simp -implicitDefEqProofs (disch := (first | assumption | omega | (simp only [ngs]; done) | decide)) only [ev, R.bind_ok, R.bind_ex, R.st_ok, R.st_ex, R.of_some, List.length_map, s_names, n1]
      · rw [decide_eq_false hx] at n1
        rw [if_neg hx]
        have l1 : (stL nm).length = nm.length := stL_len nm
        have l2 : (stL nm).length + [D.str (S x)].length ≤ 1000000 := by rw [l1, List.length_singleton]; omega
        have e2 : stL nm ++ [.str (S x)] = stL (nm ++ [x]) := by rw [stL_app]; rfl
        simp -implicitDefEqProofs (disch := (first | assumption | omega | (simp only [ngs]; done) | decide)) only [ev, R.bind_ok, R.bind_ex, R.st_ok, R.st_ex, R.of_some, List.length_map, s_names, n1, e2, put_names]
    show forL (gVar 10) [10] b_Library_admit_4 (.str (S x) :: stL xs) _ = _
    rw [f_c]
    simp -implicitDefEqProofs (disch := (first | assumption | omega | (simp only [ngs]; done) | decide)) only [ev, R.bind_ok, R.bind_ex, R.st_ok, R.st_ex, R.of_some, List.length_map, st, ih]
    rfl
end
end Tw

set_option maxHeartbeats 2000000
namespace Tw
open PySem
section
variable {α : Type} {g : DG} {p : DT} {e : DE} {ρ : DEnv} {vs : List Nat}
end
theorem okif {α : Type} {c : Prop} [Decidable c] {x y : α} : (if c then R.ok x else R.ok y) = R.ok (if c then x else y) := by split <;> rfl
section
variable {i j : Nat} {f : Str} {k e : DE} {ρ : DEnv} {v : D} {ks : List Str} {vs l : List D}
def gappS (e : DE) (ρ : DEnv) (o : Option (Nat × D)) : R Out := match o with
  | some (j, .lst l) => (e ρ).st ρ fun y => if l.length < lineD then .ok (.nx (ρ.set j (some (.gho (.lst (l ++ [y])))))) else .no
  | _ => .no
theorem q_gapp : sGApp i f e ρ = gappS e ρ (fldG i f ρ) := by
  unfold sGApp gappS
  cases fldG i f ρ with
  | none => rfl
  | some p => cases p with | mk j d => cases d <;> rfl
theorem gapp_l : gappS e ρ (some (j, .lst l)) = (e ρ).st ρ fun y => ltS l.length (.ok (.nx (ρ.set j (some (.gho (.lst (l ++ [y]))))))) := rfl
def gputS (k : DE) (v : D) (ρ : DEnv) (o : Option (Nat × D)) : R Out := match o with
  | some (j, .dct ks vs) => (k ρ).st ρ fun x => match x with
    | .str s => if ks.length < lineD then .ok (.nx (ρ.set j (some (.gho (.dct (dPutK s ks) (dPutV s v ks vs)))))) else .no
    | _ => .no
  | _ => .no
theorem q_gput : sGPut i f k e ρ = (e ρ).st ρ fun v => gputS k v ρ (fldG i f ρ) := by
  unfold sGPut gputS
  congr 1
def gput2 (j : Nat) (v : D) (ks : List Str) (vs : List D) (ρ : DEnv) (x : D) : R Out := match x with
  | .str s => ltS ks.length (.ok (.nx (ρ.set j (some (.gho (.dct (dPutK s ks) (dPutV s v ks vs)))))))
  | _ => .no
theorem gput_d : gputS k v ρ (some (j, .dct ks vs)) = (k ρ).st ρ (gput2 j v ks vs ρ) := by
  show R.st _ _ _ = R.st _ _ _
  congr 1
theorem gput_s {s : Str} : gput2 j v ks vs ρ (.str s) = ltS ks.length (.ok (.nx (ρ.set j (some (.gho (.dct (dPutK s ks) (dPutV s v ks vs))))))) := rfl
theorem q_ilst : iLst e ρ = (e ρ).bind fun x => match x with | .lst l => .ok l | _ => .no := rfl
end
theorem admit_ok {L : List CL} {nm : List Wd} {d : D} {r : Dr} (hs : Sm L) (h : AdOk L r) (hd : DLike d r) (hn : nm.length ≤ 100000) (hb : r.bs.length ≤ 100) :
    d_Library_admit (libS nm) (.lst (L.map kiD)) (plD (ttl L)) [d] = .ok (.non, libS (nmAdd nm (r.ns ++ r.ss)), .lst ((L ++ [mkCL L r]).map kiD), plD (ttl (L ++ [mkCL L r]))) := by
  rw [e_Library_admit _ _ _ _ rfl]
  simp only [List.cons_append, List.nil_append]
  have c1 := oIn_plD r.t (ttl L)
  rw [decide_eq_false h.new] at c1
  have lp := admit_loop (nm := nm) (d := d) (o7 := none) (o8 := none) (o9 := none) (o10 := none) hs r.bs [] [] h.bs (by simp; omega) (by simp; omega)
  have lA : (putsW (puA L r.bs) []) = putsW (puA L r.bs) [] := rfl
  generalize hA : putsW (puA L r.bs) [] = A at lp
  generalize hB : putsW (puB L r.bs) [] = B at lp
  have mA : ∀ x, x ∈ A ↔ inAb L r.bs x := fun x => by rw [← hA, mem_putsW, mem_puA]; simp
  have mB : ∀ x, x ∈ B ↔ inSh L r.bs x := fun x => by rw [← hB, mem_putsW, mem_puB]; simp
  have hlen := hs.1
  have ht : (ttl L).length = L.length := by unfold ttl; rw [List.length_map]
  have cmp1 : ∀ o4 o6 o7 o8 o9 o10 : Option Slot, ∀ P, compS (gVar 5) tYesD (e1 (oFld "title") (eVar 5)) [5] (eA nm d A B o4 none o6 o7 o8 o9 o10 (.lst (L.map kiD)) P) (L.map kiD) = .ok (.lst (stL (ttl L))) := by
    intro o4 o6 o7 o8 o9 o10 P
    rw [comp_map kiD (fun c => .str (S c.r.t)) (by omega) rfl (fun c hc => by
      unfold cStep
      simp -implicitDefEqProofs (disch := (first | assumption | omega | (simp only [ngs]; done) | decide)) only [ev, R.bind_ok, R.bind_ex, R.st_ok, R.st_ex, R.of_some, List.length_map, ki_t, if_true])]
    unfold stL ttl
    rw [List.map_map]
    rfl
  have cmp2 : ∀ o4 o5 o7 o8 o9 o10 : Option Slot, ∀ K P, compS (gVar 6) (tVal (e2 oIn (eVar 6) (eLook 2))) (eVar 6) [6] (eA nm d A B o4 o5 none o7 o8 o9 o10 K P) (stL (ttl L)) = .ok (.lst (stL ((ttl L).filter fun x => decide (inAb L r.bs x)))) := by
    intro o4 o5 o7 o8 o9 o10 K P
    unfold stL
    rw [comp_filter (fun w => .str (S w)) (fun w => .str (S w)) (fun x => decide (inAb L r.bs x)) (by omega) rfl (fun x hx => by
      have m := oIn_trD x A
      have : decide (x ∈ A) = decide (inAb L r.bs x) := by rw [decide_eq_decide]; exact mA x
      rw [this] at m
      unfold cStep
      simp -implicitDefEqProofs (disch := (first | assumption | omega | (simp only [ngs]; done) | decide)) only [ev, R.bind_ok, R.bind_ex, R.st_ok, R.st_ex, R.of_some, List.length_map, m, okif])]
  have cmp3 : ∀ o4 o5 o7 o8 o9 o10 : Option Slot, ∀ K P, compS (gVar 6) (tVal (e2 oIn (eVar 6) (eLook 3))) (eVar 6) [6] (eA nm d A B o4 o5 none o7 o8 o9 o10 K P) (stL (ttl L)) = .ok (.lst (stL ((ttl L).filter fun x => decide (inSh L r.bs x)))) := by
    intro o4 o5 o7 o8 o9 o10 K P
    unfold stL
    rw [comp_filter (fun w => .str (S w)) (fun w => .str (S w)) (fun x => decide (inSh L r.bs x)) (by omega) rfl (fun x hx => by
      have m := oIn_trD x B
      have : decide (x ∈ B) = decide (inSh L r.bs x) := by rw [decide_eq_decide]; exact mB x
      rw [this] at m
      unfold cStep
      simp -implicitDefEqProofs (disch := (first | assumption | omega | (simp only [ngs]; done) | decide)) only [ev, R.bind_ok, R.bind_ex, R.st_ok, R.st_ex, R.of_some, List.length_map, m, okif])]
  have mk := mkki_ok (c := mkCL L r) h.ok hd
  have mk : mkD "Kind" d_Kind_init [d, .tup (stL ((ttl L).filter fun x => decide (inAb L r.bs x))), .tup (stL ((ttl L).filter fun x => decide (inSh L r.bs x)))] = .ok (kiD (mkCL L r)) := mk
  have lp2 := fun o2 o3 o4 o5 o6 o7 o8 o9 K P => loop_names (d := d) (o2 := o2) (o3 := o3) (o4 := o4) (o5 := o5) (o6 := o6) (o7 := o7) (o8 := o8) (o9 := o9) (K := K) (P := P) (r.ns ++ r.ss) nm (by have := h.ok.nl; omega)
  have hnl := h.ok.nl
  rw [List.length_append] at hnl
  have l1 : (stL r.ns).length + (stL r.ss).length ≤ 1000000 := by rw [stL_len, stL_len]; omega
  have e2 : stL r.ns ++ stL r.ss = stL (r.ns ++ r.ss) := (stL_app _ _).symm
  have pp := plD_put (x := r.t) (ts := ttl L) h.new
  rw [ht] at pp
  have l3 : (ttl L).length < 1000000 := by omega
  have l4 : L.length < 1000000 := by omega
  have t2 : ttl (L ++ [mkCL L r]) = ttl L ++ [r.t] := by unfold ttl; rw [List.map_append]; rfl
  have k2 : (L ++ [mkCL L r]).map kiD = L.map kiD ++ [kiD (mkCL L r)] := by rw [List.map_append]; rfl
  have pe : ∀ ρ (k : DE) (v : D) (j : Nat), gputS k v ρ (some (j, plD (ttl L))) = (k ρ).st ρ (gput2 j v ((ttl L).map S) ((List.range (ttl L).length).map fun i : Nat => .int i) ρ) := fun ρ k v j => gput_d
  rw [t2, k2]
  unfold b_Library_admit
  have tA : D.dct [] [] = trD [] := rfl
  simp -implicitDefEqProofs (disch := (first | assumption | omega | (simp only [ngs]; done) | decide)) only [ev, R.bind_ok, R.bind_ex, R.st_ok, R.st_ex, R.of_some, List.length_map, hd.t, hd.n, hd.s, hd.b, s_places, s_kinds, c1, tA, lp, cmp1, cmp2, cmp3, q_gput, q_gapp, f_places, f_kinds, pe, gput_s, gapp_l, q_ilst, pp, ht, mk, e2, lp2, outG]
  rfl
def grow : List CL → List Dr → List CL
  | L, [] => L
  | L, r :: rs => grow (L ++ [mkCL L r]) rs
def growN : List Wd → List Dr → List Wd
  | nm, [] => nm
  | nm, r :: rs => growN (nmAdd nm (r.ns ++ r.ss)) rs
inductive AdOks : List CL → List Dr → Prop
  | nil {L : List CL} : AdOks L []
  | cons {L : List CL} {r : Dr} {rs : List Dr} : AdOk L r → r.bs.length ≤ 100 → (r.ns ++ r.ss).length ≤ 100 → AdOks (L ++ [mkCL L r]) rs → AdOks L (r :: rs)
theorem Sm.snoc {L : List CL} {r : Dr} (h : Sm L) (hl : L.length < 100) : Sm (L ++ [mkCL L r]) := by
  have ht : (ttl L).length = L.length := by unfold ttl; rw [List.length_map]
  refine ⟨by rw [List.length_append, List.length_singleton]; omega, fun c hc => ?_⟩
  rcases List.mem_append.mp hc with hc | hc
  · exact h.2 c hc
  · rw [List.mem_singleton.mp hc]
    have l1 := List.length_filter_le (fun x => decide (inAb L r.bs x)) (ttl L)
    have l2 := List.length_filter_le (fun x => decide (inSh L r.bs x)) (ttl L)
    exact ⟨by show ((ttl L).filter fun x => decide (inAb L r.bs x)).length ≤ 100; omega, by show ((ttl L).filter fun x => decide (inSh L r.bs x)).length ≤ 100; omega⟩
theorem nmAdd_len (nm ws : List Wd) : (nmAdd nm ws).length ≤ nm.length + ws.length := putsW_len (xs := ws) (A := nm)
/-- the drafts rs, as they are given -/
inductive DLs : List D → List Dr → Prop
  | nil : DLs [] []
  | cons {d : D} {r : Dr} {ds : List D} {rs : List Dr} : DLike d r → d = d → DLs ds rs → DLs (d :: ds) (r :: rs)
theorem gnew_s {i j : Nat} {f : Str} {e : DE} {ρ : DEnv} {s s' d : D} (he : e ρ = .ok d) (hi : ρ[i]? = some (some (.slf s))) (hj : ρ[j]? = some none) (hp : putF f (.gst j) s = some s') : sGNew i f j e ρ = .ok (.nx ((ρ.set j (some (.gho d))).set i (some (.slf s')))) := by
  unfold sGNew; rw [he]; simp only [R.st_ok, hi, hj, hp]
theorem gcallC_s {c : String} {i : Nat} {f : GD} {as : DA} {ρ : DEnv} {ks : List Str} {l xs : List D} {a b : D} {r : D × D × D × D} (h1 : as ρ = .ok xs) (hi : ρ[i]? = some (some (.slf (.obj c ks l)))) (ha : ρ[(12 : Nat)]? = some (some (.gho a))) (hb : ρ[(13 : Nat)]? = some (some (.gho b))) (hg : okG (.obj c ks l) = true) (hf : f (.obj c ks l) a b xs = .ok r) : sGCallC c i f as ρ = .ok (.nx (((ρ.set 12 (some (.gho r.2.2.1))).set 13 (some (.gho r.2.2.2))).set i (some (.slf r.2.1)))) := by
  unfold sGCallC sGCall; simp only [hi, h1, R.st_ok, ha, hb, hg, hf, if_true]
theorem lib_loop {dd : D} : ∀ {ds : List D} {rs : List Dr} {L : List CL} {nm : List Wd}, DLs ds rs → AdOks L rs → Sm L → L.length + rs.length ≤ 100 → nm.length + rs.length * 100 ≤ 50000 →
    forL (gVar 2) [2] b_Library_init_1 ds [some (.slf (libS nm)), some (.val dd), none, none, none, none, none, none, none, none, none, none, some (.gho (.lst (L.map kiD))), some (.gho (plD (ttl L)))] =
      .ok (.nx [some (.slf (libS (growN nm rs))), some (.val dd), none, none, none, none, none, none, none, none, none, none, some (.gho (.lst ((grow L rs).map kiD))), some (.gho (plD (ttl (grow L rs))))])
  | _, _, L, nm, .nil, _, _, _, _ => rfl
  | _, _, L, nm, .cons (d := d) (r := r) (ds := ds) (rs := rs) hd _ hds, .cons h1 h2 h3 h4, hs, hl, hn => by
    simp only [List.length_cons] at hl hn
    have l3 := nmAdd_len nm (r.ns ++ r.ss)
    have ih := lib_loop (dd := dd) (nm := nmAdd nm (r.ns ++ r.ss)) hds h4 (hs.snoc (by omega)) (by rw [List.length_append, List.length_singleton]; omega) (by omega)
    have ad := admit_ok hs h1 hd (nm := nm) (by omega) h2
    have st : b_Library_init_1 [some (.slf (libS nm)), some (.val dd), some (.val d), none, none, none, none, none, none, none, none, none, some (.gho (.lst (L.map kiD))), some (.gho (plD (ttl L)))] =
        .ok (.nx [some (.slf (libS (nmAdd nm (r.ns ++ r.ss)))), some (.val dd), some (.val d), none, none, none, none, none, none, none, none, none, some (.gho (.lst ((L ++ [mkCL L r]).map kiD))), some (.gho (plD (ttl (L ++ [mkCL L r]))))]) := by
      exact gcallC_s (c := "Library") (i := 0) (f := d_Library_admit) (as := aCons (eVar 2) aNil) rfl rfl rfl rfl rfl ad
    rw [f_c]
    simp -implicitDefEqProofs (disch := (first | assumption | omega | (simp only [ngs]; done) | decide)) only [ev, R.bind_ok, R.bind_ex, R.st_ok, R.st_ex, R.of_some, List.length_map, st, ih]
    rfl
theorem libInit_ok {dd : D} {ds : List D} {rs : List Dr} (hi : iterD dd = some ds) (hd : DLs ds rs) (h : AdOks [] rs) (hl : rs.length ≤ 100) : mkD "Library" d_Library_init [dd] = .ok (liD (grow [] rs) (growN [] rs)) := by
  have lp := lib_loop (dd := dd) (nm := []) hd h ⟨Nat.zero_le _, fun c hc => by cases hc⟩ (by simpa using hl) (by simp; omega)
  have k1 : putF "kinds" (.gst 12) (.obj "Library" [] []) = some (.obj "Library" ["kinds"] [.gst 12]) := put0 (by decide +kernel)
  have k2 : putF "places" (.gst 13) (.obj "Library" ["kinds"] [.gst 12]) = some (.obj "Library" ["kinds", "places"] [.gst 12, .gst 13]) := put1 (by decide +kernel) (by decide +kernel)
  have k3 : putF "names" (.tup []) (.obj "Library" ["kinds", "places"] [.gst 12, .gst 13]) = some (libS []) := put2 (by decide +kernel) (by decide +kernel)
  rw [q_mkd, e_Library_init]
  have g1 : sGNew 0 "kinds" 12 (eLst aNil) [some (.slf (.obj "Library" [] [])), some (.val dd), none, none, none, none, none, none, none, none, none, none, none, none] = .ok (.nx [some (.slf (.obj "Library" ["kinds"] [.gst 12])), some (.val dd), none, none, none, none, none, none, none, none, none, none, some (.gho (.lst [])), none]) := by
    exact gnew_s rfl rfl rfl k1
  have g2 : sGNew 0 "places" 13 (eC (.dct [] [])) [some (.slf (.obj "Library" ["kinds"] [.gst 12])), some (.val dd), none, none, none, none, none, none, none, none, none, none, some (.gho (.lst [])), none] = .ok (.nx [some (.slf (.obj "Library" ["kinds", "places"] [.gst 12, .gst 13])), some (.val dd), none, none, none, none, none, none, none, none, none, none, some (.gho (.lst [])), some (.gho (.dct [] []))]) := by
    exact gnew_s rfl rfl rfl k2
  unfold b_Library_init
  have hk0 : ([] : List CL).map kiD = [] := rfl
  have hp0 : D.dct [] [] = plD (ttl []) := rfl
  rw [hk0] at lp
  simp -implicitDefEqProofs (disch := (first | assumption | omega | (simp only [ngs]; done) | decide)) only [ev, R.bind_ok, R.bind_ex, R.st_ok, R.st_ex, R.of_some, List.length_map, g1, g2, k3, hi]
  rw [hp0]
  simp -implicitDefEqProofs (disch := (first | assumption | omega | (simp only [ngs]; done) | decide)) only [ev, R.bind_ok, R.bind_ex, R.st_ok, R.st_ex, R.of_some, List.length_map, lp]
  rfl
end Tw

set_option maxHeartbeats 2000000
namespace Tw
open PySem
abbrev Lnk := Nat × Bool
structure Pn where
  ls : List Lnk
  ms : List Int
def bI (b : Bool) : Int := if b then 1 else 0
def lkD (l : Lnk) : D := .lst [.int l.1, .int (bI l.2)]
def pnD (p : Pn) : D := .lst [.lst (p.ls.map lkD), .lst (p.ms.map .int)]
def plnD (P : List Pn) : D := .lst (P.map pnD)
structure PnOk (j m : Nat) (p : Pn) : Prop where
  lt : ∀ l ∈ p.ls, l.1 < j
  nd : (p.ls.map Prod.fst).Nodup
  ml : p.ms.length = m
  mb : ∀ x ∈ p.ms, x = 0 ∨ x = 1 ∨ x = 2
def PlanOk (m : Nat) (P : List Pn) : Prop := ∀ j p, P[j]? = some p → PnOk j m p
theorem PlanOk.nil {m : Nat} : PlanOk m [] := fun j p h => by simp at h
theorem PlanOk.snoc {m : Nat} {P : List Pn} {p : Pn} (h : PlanOk m P) (k : PnOk P.length m p) : PlanOk m (P ++ [p]) := fun j q e => by
  by_cases hj : j < P.length
  · rw [List.getElem?_append_left hj] at e; exact h j q e
  · rw [List.getElem?_append_right (by omega)] at e
    have : j - P.length = 0 := by
      rcases Nat.eq_zero_or_pos (j - P.length) with h0 | h0
      · exact h0
      · rw [List.getElem?_eq_none (by simp; omega)] at e; cases e
    rw [this] at e
    have e : p = q := by simpa using e
    have hj : j = P.length := by omega
    subst e; subst hj
    exact k
theorem at_eq {α : Type} {l : List α} {i : Int} {n : Nat} {x : α} (h : l[n]? = some x) (e : i = n) : atD l i = some x := by
  subst e; rw [p_atn]; exact h
theorem mapG {α : Type} {f : α → D} {l : List α} {n : Nat} {x : α} (h : l[n]? = some x) : (l.map f)[n]? = some (f x) := by rw [List.getElem?_map, h]; rfl
def lkOf (row : List Int) (k : Nat) : Option Lnk := if 2 ≤ row.getD k 0 then some (k, decide (row.getD k 0 = 3)) else none
theorem getD_some {l : List Int} {k : Nat} (h : k < l.length) : l[k]? = some (l.getD k 0) := by
  rw [List.getD_eq_getElem?_getD, List.getElem?_eq_getElem h]; rfl
def m5 (r : Int) : Int := ([0, 0, 0, 1, 2] : List Int).getD r.toNat 0
theorem mul_lst {x : Int} {j : Nat} (h : j ≤ 1000) : oMul (.lst [.int x]) (.int j) = some (.lst ((List.replicate j x).map .int)) := by
  have g : -(2 ^ 63) ≤ (j : Int) ∧ (j : Int) < 2 ^ 63 ∧ [D.int x].length * (j : Int).toNat ≤ lineD := ⟨by omega, by omega, by
    rw [Int.toNat_natCast, List.length_singleton, Nat.one_mul]; exact Nat.le_trans h (by decide)⟩
  unfold oMul
  simp only [if_pos g, Int.toNat_natCast]
  rw [List.length_singleton, Nat.one_mul] at g ⊢
  rw [Int.toNat_natCast] at g
  rw [if_pos g]
  clear g h
  refine congrArg (fun x => some (D.lst x)) ?_
  induction j with
  | zero => rfl
  | succ n ih => rw [List.replicate_succ, List.flatten_cons, ih, List.replicate_succ]; rfl
theorem sl_to {l : List D} {i : Int} (h : 0 ≤ i) : oSl none (some i) (.lst l) = some (.lst (l.take i.toNat)) := congrArg (fun x => some (D.lst x)) (cutD_to l i h)
end Tw

set_option maxHeartbeats 2000000
namespace Tw
open PySem
theorem nodup_map_of {α β : Type} {f : α → β} : ∀ {l : List α}, (∀ a ∈ l, ∀ b ∈ l, f a = f b → a = b) → l.Nodup → (l.map f).Nodup
  | [], _, _ => List.nodup_nil
  | a :: l, h, n => by
    rw [List.map_cons]
    obtain ⟨n1, n2⟩ := List.nodup_cons.mp n
    refine List.nodup_cons.mpr ⟨fun z => ?_, nodup_map_of (fun x hx y hy => h x (List.mem_cons_of_mem _ hx) y (List.mem_cons_of_mem _ hy)) n2⟩
    obtain ⟨b, hb, e⟩ := List.mem_map.mp z
    exact n1 (h b (List.mem_cons_of_mem _ hb) a List.mem_cons_self e ▸ hb)
/-- words that differ -/
structure Wds (ws : List Wd) : Prop where
  w : ∀ w ∈ ws, isW w = true
  nd : ws.Nodup
  l : ws.length ≤ 100
theorem Wds.nil : Wds [] := ⟨fun _ h => (by cases h), List.nodup_nil, Nat.zero_le _⟩
theorem wgetD {ws : List Wd} {k : Nat} (h : k < ws.length) : ws[k]? = some (ws.getD k []) := by
  rw [List.getD_eq_getElem?_getD, List.getElem?_eq_getElem h]; rfl
theorem wmem {ws : List Wd} {k : Nat} (h : k < ws.length) : ws.getD k [] ∈ ws := List.mem_of_getElem? (wgetD h)
theorem winj {ws : List Wd} (n : ws.Nodup) {i j : Nat} (hi : i < ws.length) (hj : j < ws.length) (e : ws.getD i [] = ws.getD j []) : i = j := by
  have e1 := wgetD hi
  rw [e, ← wgetD hj] at e1
  exact (List.getElem?_inj hj n).mp e1.symm |>.symm
theorem stL_at {ws : List Wd} {k : Nat} (h : k < ws.length) : (stL ws)[k]? = some (.str (S (ws.getD k []))) := by
  unfold stL; rw [List.getElem?_map, wgetD h]; rfl
def pick (lb : List Wd) (ms : List Int) (v : Int) : List Wd := ((List.range lb.length).filter fun m => decide (ms.getD m 0 = v)).map fun m => lb.getD m []
def prDr (ws lb : List Wd) (j : Nat) (p : Pn) : Dr := ⟨ws.getD j [], pick lb p.ms 1, pick lb p.ms 2, p.ls.map fun l => (ws.getD l.1 [], l.2)⟩
theorem pick_mem {lb : List Wd} {ms : List Int} {v : Int} {w : Wd} (h : w ∈ pick lb ms v) : w ∈ lb := by
  obtain ⟨m, hm, rfl⟩ := List.mem_map.mp h
  exact wmem (List.mem_range.mp (List.mem_filter.mp hm).1)
theorem pick_len (lb : List Wd) (ms : List Int) (v : Int) : (pick lb ms v).length ≤ lb.length := by
  unfold pick
  rw [List.length_map]
  have := List.length_filter_le (fun m => decide (ms.getD m 0 = v)) (List.range lb.length)
  rwa [List.length_range] at this
theorem pick_nd {lb : List Wd} {ms : List Int} (h : lb.Nodup) : (pick lb ms 1 ++ pick lb ms 2).Nodup := by
  unfold pick
  rw [← List.map_append]
  have R : ∀ v m, m ∈ (List.range lb.length).filter (fun m => decide (ms.getD m 0 = v)) → m < lb.length ∧ ms.getD m 0 = v := fun v m hm => ⟨List.mem_range.mp (List.mem_filter.mp hm).1, of_decide_eq_true (List.mem_filter.mp hm).2⟩
  refine nodup_map_of (fun a ha b hb e => ?_) ?_
  · have la : a < lb.length := (List.mem_append.mp ha).elim (fun z => (R _ _ z).1) fun z => (R _ _ z).1
    have lb' : b < lb.length := (List.mem_append.mp hb).elim (fun z => (R _ _ z).1) fun z => (R _ _ z).1
    exact winj h la lb' e
  · refine List.nodup_append.mpr ⟨List.nodup_range.filter _, List.nodup_range.filter _, fun a ha b hb e => ?_⟩
    subst e
    have h1 := (R _ _ ha).2
    rw [(R _ _ hb).2] at h1
    cases h1
theorem nd_len {α : Type} [BEq α] [LawfulBEq α] : ∀ {l m : List α}, l.Nodup → (∀ x ∈ l, x ∈ m) → l.length ≤ m.length
  | [], m, _, _ => Nat.zero_le _
  | a :: l, m, h, hs => by
    obtain ⟨h1, h2⟩ := List.nodup_cons.mp h
    have ha := hs a List.mem_cons_self
    have ih := nd_len (l := l) (m := m.erase a) h2 fun x hx => by
      have hne : x ≠ a := fun e => h1 (e ▸ hx)
      exact (List.mem_erase_of_ne hne).mpr (hs x (List.mem_cons_of_mem _ hx))
    have hl := List.length_erase_of_mem ha
    have hp := List.length_pos_of_mem ha
    rw [List.length_cons]
    omega
theorem PnOk.len {j m : Nat} {p : Pn} (h : PnOk j m p) : p.ls.length ≤ j := by
  have := nd_len (m := List.range j) h.nd fun x hx => by
    obtain ⟨l, hl, rfl⟩ := List.mem_map.mp hx
    exact List.mem_range.mpr (h.lt l hl)
  simpa using this
theorem prDr_ok {ws lb : List Wd} {j m : Nat} {p : Pn} (hw : Wds ws) (hb : Wds lb) (hj : j < ws.length) (hp : PnOk j m p) : DrOk (prDr ws lb j p) := by
  have hl := hp.len
  have h1 := pick_len lb p.ms 1
  have h2 := pick_len lb p.ms 2
  have h3 := hb.l
  have h4 := hw.l
  refine ⟨hw.w _ (wmem hj), fun w hm => ?_, pick_nd hb.nd, ?_, ?_, fun b hm => ?_, ?_⟩
  · exact (List.mem_append.mp hm).elim (fun z => hb.w _ (pick_mem z)) fun z => hb.w _ (pick_mem z)
  · show (pick lb p.ms 1 ++ pick lb p.ms 2).length < 1000
    rw [List.length_append]; omega
  · show ((p.ls.map fun l => (ws.getD l.1 [], l.2)).map Prod.fst).Nodup
    rw [List.map_map, show (Prod.fst ∘ fun l : Lnk => (ws.getD l.1 [], l.2)) = (fun k => ws.getD k []) ∘ Prod.fst from rfl, ← List.map_map]
    refine nodup_map_of (fun a ha b hb e => ?_) hp.nd
    obtain ⟨x, hx, rfl⟩ := List.mem_map.mp ha
    obtain ⟨y, hy, rfl⟩ := List.mem_map.mp hb
    have := hp.lt x hx
    have := hp.lt y hy
    exact winj hw.nd (by omega) (by omega) e
  · obtain ⟨l, hl, rfl⟩ := List.mem_map.mp hm
    have := hp.lt l hl
    exact hw.w _ (wmem (by omega))
  · show (p.ls.map fun l => (ws.getD l.1 [], l.2)).length < 1000
    rw [List.length_map]; omega
theorem pn_0 {p : Pn} : oIx (pnD p) (.int 0) = some (.lst (p.ls.map lkD)) := rfl
theorem lk_0 {l : Lnk} : oIx (lkD l) (.int 0) = some (.int l.1) := rfl
theorem lk_1 {l : Lnk} : oIx (lkD l) (.int 1) = some (.int (bI l.2)) := rfl
theorem DrOk.pre {r : Dr} {bs cs : List BS} (h : DrOk { r with bs := bs ++ cs }) : DrOk { r with bs := bs } := by
  refine ⟨h.t, h.w, h.nd, h.nl, ?_, fun b hb => h.bw b (List.mem_append_left _ hb), ?_⟩
  · have := h.bd
    simp only [List.map_append] at this
    exact (List.nodup_append.mp this).1
  · have := h.bl
    simp only [List.length_append] at this
    show bs.length < 1000
    omega
def drsOf (ws lb : List Wd) : Nat → List Pn → List Dr
  | _, [] => []
  | k, p :: P => prDr ws lb k p :: drsOf ws lb (k + 1) P
end Tw

set_option maxHeartbeats 2000000
namespace Tw
open PySem
def lks (P : List Pn) (j : Nat) : List Lnk := match P[j]? with | some p => p.ls | none => []
/-- x is above j -/
inductive Ab (P : List Pn) : Nat → Nat → Prop
  | base {j : Nat} {l : Lnk} : l ∈ lks P j → Ab P j l.1
  | step {j x : Nat} {l : Lnk} : l ∈ lks P j → Ab P l.1 x → Ab P j x
/-- x is a shared base of j -/
inductive Sh (P : List Pn) : Nat → Nat → Prop
  | base {j : Nat} {l : Lnk} : l ∈ lks P j → l.2 = true → Sh P j l.1
  | step {j x : Nat} {l : Lnk} : l ∈ lks P j → Sh P l.1 x → Sh P j x
theorem Ab.iff {P : List Pn} {j x : Nat} : Ab P j x ↔ ∃ l ∈ lks P j, x = l.1 ∨ Ab P l.1 x := by
  constructor
  · intro h
    cases h with
    | base h => exact ⟨_, h, .inl rfl⟩
    | step h k => exact ⟨_, h, .inr k⟩
  · rintro ⟨l, h, rfl | k⟩
    · exact .base h
    · exact .step h k
theorem Sh.iff {P : List Pn} {j x : Nat} : Sh P j x ↔ ∃ l ∈ lks P j, (l.2 = true ∧ x = l.1) ∨ Sh P l.1 x := by
  constructor
  · intro h
    cases h with
    | base h k => exact ⟨_, h, .inl ⟨k, rfl⟩⟩
    | step h k => exact ⟨_, h, .inr k⟩
  · rintro ⟨l, h, ⟨k, rfl⟩ | k⟩
    · exact .base h k
    · exact .step h k
section
variable {P : List Pn} {m : Nat} {j x : Nat}
theorem lks_lt (ho : PlanOk m P) {l : Lnk} (h : l ∈ lks P j) : l.1 < j := by
  unfold lks at h
  cases e : P[j]? with
  | none => rw [e] at h; cases h
  | some p => rw [e] at h; exact (ho j p e).lt l h
theorem Ab.lt (ho : PlanOk m P) (h : Ab P j x) : x < j := by
  induction h with
  | base h => exact lks_lt ho h
  | step h _ ih => have := lks_lt ho h; omega
theorem Sh.lt (ho : PlanOk m P) (h : Sh P j x) : x < j := by
  induction h with
  | base h _ => exact lks_lt ho h
  | step h _ ih => have := lks_lt ho h; omega
theorem Sh.ab (h : Sh P j x) : Ab P j x := by
  induction h with
  | base h _ => exact .base h
  | step h _ ih => exact .step h ih
end
noncomputable instance (P : List Pn) (j x : Nat) : Decidable (Ab P j x) := Classical.propDecidable _
noncomputable instance (P : List Pn) (j x : Nat) : Decidable (Sh P j x) := Classical.propDecidable _
noncomputable def abI (P : List Pn) (j : Nat) : List Nat := (List.range j).filter fun x => decide (Ab P j x)
noncomputable def shI (P : List Pn) (j : Nat) : List Nat := (List.range j).filter fun x => decide (Sh P j x)
theorem mem_abI {P : List Pn} {m j x : Nat} (ho : PlanOk m P) : x ∈ abI P j ↔ Ab P j x := by
  unfold abI
  rw [List.mem_filter, decide_eq_true_eq, List.mem_range]
  exact ⟨fun h => h.2, fun h => ⟨h.lt ho, h⟩⟩
theorem mem_shI {P : List Pn} {m j x : Nat} (ho : PlanOk m P) : x ∈ shI P j ↔ Sh P j x := by
  unfold shI
  rw [List.mem_filter, decide_eq_true_eq, List.mem_range]
  exact ⟨fun h => h.2, fun h => ⟨h.lt ho, h⟩⟩
def wmap (ws : List Wd) (l : List Nat) : List Wd := l.map fun k => ws.getD k []
theorem mem_wmap {ws : List Wd} (n : ws.Nodup) {l : List Nat} (hl : ∀ x ∈ l, x < ws.length) {k : Nat} (hk : k < ws.length) : ws.getD k [] ∈ wmap ws l ↔ k ∈ l := by
  constructor
  · intro h
    obtain ⟨x, hx, e⟩ := List.mem_map.mp h
    exact winj n (hl x hx) hk e ▸ hx
  · intro h
    exact List.mem_map.mpr ⟨k, h, rfl⟩
noncomputable def clOf (ws lb : List Wd) (P : List Pn) (j : Nat) : CL := ⟨prDr ws lb j (P.getD j ⟨[], []⟩), wmap ws (abI P j), wmap ws (shI P j)⟩
noncomputable def clsOf (ws lb : List Wd) (P : List Pn) (k : Nat) : List CL := (List.range k).map (clOf ws lb P)
theorem ttl_cls {ws lb : List Wd} {P : List Pn} {k : Nat} : ttl (clsOf ws lb P k) = wmap ws (List.range k) := by
  unfold ttl clsOf wmap
  rw [List.map_map]
  rfl
section
variable {ws lb : List Wd} {P : List Pn} {k : Nat}
theorem fnd_cls (hw : Wds ws) (hk : k ≤ ws.length) {i : Nat} (hi : i < k) : fnd (clsOf ws lb P k) (ws.getD i []) = some (clOf ws lb P i) := by
  have hm : ws.getD i [] ∈ ttl (clsOf ws lb P k) := by
    rw [ttl_cls]
    exact List.mem_map.mpr ⟨i, List.mem_range.mpr hi, rfl⟩
  obtain ⟨c, h1, h2, h3, _⟩ := fnd_spec hm
  obtain ⟨i', hi', rfl⟩ := List.mem_map.mp h3
  have hi' := List.mem_range.mp hi'
  have : i' = i := winj hw.nd (by omega) (by omega) h2
  rw [h1, this]
theorem lks_get {p : Pn} (h : P[k]? = some p) : lks P k = p.ls := by unfold lks; rw [h]
theorem mkCL_cls (hw : Wds ws) (ho : PlanOk lb.length P) (hk : k < ws.length) {p : Pn} (hp : P[k]? = some p) : mkCL (clsOf ws lb P k) (prDr ws lb k p) = clOf ws lb P k := by
  have hd : P.getD k ⟨[], []⟩ = p := by rw [List.getD_eq_getElem?_getD, hp]; rfl
  have hlt : ∀ l ∈ p.ls, l.1 < k := (ho k p hp).lt
  have hlk := lks_get hp
  unfold mkCL clOf
  rw [hd, ttl_cls]
  have ha : ∀ x < k, (decide (inAb (clsOf ws lb P k) (prDr ws lb k p).bs (ws.getD x [])) = true ↔ Ab P k x) := by
    intro x hx
    rw [decide_eq_true_eq, Ab.iff, hlk]
    constructor
    · rintro ⟨b, hb, h⟩
      obtain ⟨l, hl, rfl⟩ := List.mem_map.mp hb
      refine ⟨l, hl, ?_⟩
      have := hlt l hl
      rcases h with h | h
      · exact .inl (winj hw.nd (by omega) (by omega) h)
      · right
        unfold abOf at h
        rw [fnd_cls hw (by omega) this] at h
        exact (mem_abI ho).mp ((mem_wmap hw.nd (fun y hy => by have := ((mem_abI ho).mp hy).lt ho; omega) (by omega)).mp h)
    · rintro ⟨l, hl, h⟩
      have := hlt l hl
      refine ⟨(ws.getD l.1 [], l.2), List.mem_map.mpr ⟨l, hl, rfl⟩, ?_⟩
      rcases h with h | h
      · left; rw [h]
      · right
        unfold abOf
        rw [fnd_cls hw (by omega) this]
        exact (mem_wmap hw.nd (fun y hy => by have := ((mem_abI ho).mp hy).lt ho; omega) (by omega)).mpr ((mem_abI ho).mpr h)
  have hs : ∀ x < k, (decide (inSh (clsOf ws lb P k) (prDr ws lb k p).bs (ws.getD x [])) = true ↔ Sh P k x) := by
    intro x hx
    rw [decide_eq_true_eq, Sh.iff, hlk]
    constructor
    · rintro ⟨b, hb, h⟩
      obtain ⟨l, hl, rfl⟩ := List.mem_map.mp hb
      refine ⟨l, hl, ?_⟩
      have := hlt l hl
      rcases h with ⟨h1, h⟩ | h
      · exact .inl ⟨h1, winj hw.nd (by omega) (by omega) h⟩
      · right
        unfold shOf at h
        rw [fnd_cls hw (by omega) this] at h
        exact (mem_shI ho).mp ((mem_wmap hw.nd (fun y hy => by have := ((mem_shI ho).mp hy).lt ho; omega) (by omega)).mp h)
    · rintro ⟨l, hl, h⟩
      have := hlt l hl
      refine ⟨(ws.getD l.1 [], l.2), List.mem_map.mpr ⟨l, hl, rfl⟩, ?_⟩
      rcases h with ⟨h1, h⟩ | h
      · left; exact ⟨h1, by rw [h]⟩
      · right
        unfold shOf
        rw [fnd_cls hw (by omega) this]
        exact (mem_wmap hw.nd (fun y hy => by have := ((mem_shI ho).mp hy).lt ho; omega) (by omega)).mpr ((mem_shI ho).mpr h)
  have flt : ∀ (q : Wd → Bool) (r : Nat → Bool), (∀ x < k, (q (ws.getD x []) = true ↔ r x = true)) → (wmap ws (List.range k)).filter q = wmap ws ((List.range k).filter r) := by
    intro q r h
    unfold wmap
    rw [List.filter_map]
    congr 1
    refine List.filter_congr fun x hx => ?_
    have := h x (List.mem_range.mp hx)
    show q (ws.getD x []) = r x
    cases h1 : q (ws.getD x []) <;> cases h2 : r x <;> simp_all
  have e1 := flt (fun x => decide (inAb (clsOf ws lb P k) (prDr ws lb k p).bs x)) (fun x => decide (Ab P k x)) (fun x hx => (ha x hx).trans ⟨fun h => decide_eq_true h, fun h => of_decide_eq_true h⟩)
  have e2 := flt (fun x => decide (inSh (clsOf ws lb P k) (prDr ws lb k p).bs x)) (fun x => decide (Sh P k x)) (fun x hx => (hs x hx).trans ⟨fun h => decide_eq_true h, fun h => of_decide_eq_true h⟩)
  rw [e1, e2]
  rfl
theorem adok_cls (hw : Wds ws) (hb : Wds lb) (ho : PlanOk lb.length P) (hk : k < ws.length) {p : Pn} (hp : P[k]? = some p) : AdOk (clsOf ws lb P k) (prDr ws lb k p) := by
  refine ⟨prDr_ok hw hb hk (ho k p hp), ?_, fun b hm => ?_⟩
  · rw [ttl_cls]
    intro h
    obtain ⟨i, hi, e⟩ := List.mem_map.mp h
    have hi := List.mem_range.mp hi
    have : i = k := winj hw.nd (by omega) hk e
    omega
  · obtain ⟨l, hl, rfl⟩ := List.mem_map.mp hm
    rw [ttl_cls]
    exact List.mem_map.mpr ⟨l.1, List.mem_range.mpr ((ho k p hp).lt l hl), rfl⟩
theorem cls_succ (hw : Wds ws) (ho : PlanOk lb.length P) (hk : k < ws.length) {p : Pn} (hp : P[k]? = some p) : clsOf ws lb P k ++ [mkCL (clsOf ws lb P k) (prDr ws lb k p)] = clsOf ws lb P (k + 1) := by
  rw [mkCL_cls hw ho hk hp]
  show _ = (List.range (k + 1)).map _
  rw [List.range_succ, List.map_append]
  rfl
theorem grow_cls (hw : Wds ws) (hb : Wds lb) (ho : PlanOk lb.length P) (hl : P.length ≤ ws.length) (hl2 : lb.length ≤ 40) : ∀ (R Q : List Pn), P = Q ++ R →
    AdOks (clsOf ws lb P Q.length) (drsOf ws lb Q.length R) ∧ grow (clsOf ws lb P Q.length) (drsOf ws lb Q.length R) = clsOf ws lb P P.length
  | [], Q, e => by
    rw [List.append_nil] at e
    subst e
    exact ⟨.nil, rfl⟩
  | p :: R, Q, e => by
    have hp : P[Q.length]? = some p := by rw [e, List.getElem?_append_right (Nat.le_refl _), Nat.sub_self]; rfl
    have hj : Q.length < P.length := by rw [e, List.length_append, List.length_cons]; omega
    obtain ⟨h1, h2⟩ := grow_cls hw hb ho hl hl2 R (Q ++ [p]) (by rw [e, List.append_assoc]; rfl)
    rw [List.length_append, List.length_singleton] at h1 h2
    have hs := cls_succ (lb := lb) hw ho (show Q.length < ws.length by omega) hp
    have pl := (ho _ p hp).len
    have h4 := hw.l
    have p1 := pick_len lb p.ms 1
    have p2 := pick_len lb p.ms 2
    rw [drsOf]
    refine ⟨.cons (adok_cls hw hb ho (by omega) hp) ?_ ?_ (by rw [hs]; exact h1), by rw [grow, hs]; exact h2⟩
    · show (p.ls.map fun l => (ws.getD l.1 [], l.2)).length ≤ 100
      rw [List.length_map]; omega
    · show (pick lb p.ms 1 ++ pick lb p.ms 2).length ≤ 100
      rw [List.length_append]; omega
end
theorem drsOf_len {ws lb : List Wd} : ∀ (P : List Pn) (k : Nat), (drsOf ws lb k P).length = P.length
  | [], k => rfl
  | p :: P, k => by rw [drsOf, List.length_cons, drsOf_len P, List.length_cons]
theorem dls_map : ∀ rs : List Dr, DLs (rs.map drD) rs
  | [] => .nil
  | r :: rs => .cons (drD_like r) rfl (dls_map rs)
def nmsOf (ws lb : List Wd) (P : List Pn) : List Wd := growN [] (drsOf ws lb 0 P)
/-- the library of a plan -/
theorem lib_ok {ws lb : List Wd} {P : List Pn} (hw : Wds ws) (hb : Wds lb) (ho : PlanOk lb.length P) (hl : P.length ≤ ws.length) (hl2 : lb.length ≤ 40) :
    mkD "Library" d_Library_init [.lst ((drsOf ws lb 0 P).map drD)] = .ok (liD (clsOf ws lb P P.length) (nmsOf ws lb P)) := by
  obtain ⟨h1, h2⟩ := grow_cls hw hb ho hl hl2 P [] rfl
  have h4 := hw.l
  have := libInit_ok (dd := .lst ((drsOf ws lb 0 P).map drD)) rfl (dls_map _) h1 (by rw [drsOf_len]; omega)
  rw [this]
  have h2 : grow [] (drsOf ws lb 0 P) = _ := h2
  rw [h2]
  rfl
end Tw

set_option maxHeartbeats 2000000
namespace Tw
open PySem
def niL (l : List Nat) : List D := l.map fun i : Nat => .int i
theorem niL_len (l : List Nat) : (niL l).length = l.length := List.length_map _
theorem niL_app (a b : List Nat) : niL (a ++ b) = niL a ++ niL b := List.map_append
theorem deq_int {i j : Int} : deq (.int i) (.int j) = decide (i = j) := by
  have : deq (.int i) (.int j) = (i == j) := by simp [deq]
  rw [this]; rfl
theorem flat_ni : ∀ l : List Nat, (niL l).all flatD = true
  | [] => rfl
  | a :: l => by
    show (flatD (.int a) && (niL l).all flatD) = true
    rw [flat_ni l]; rfl
theorem any_ni (x : Nat) : ∀ l : List Nat, ((niL l).any fun y => deq y (.int x)) = decide (x ∈ l)
  | [] => rfl
  | a :: l => by
    show (deq (.int a) (.int x) || (niL l).any fun y => deq y (.int x)) = _
    rw [any_ni x l, deq_int]
    by_cases h : a = x
    · subst h; simp
    · have h2 : ¬ (a : Int) = x := by omega
      have h3 : ¬ x = a := fun e => h e.symm
      simp [h2, h3]
theorem notin_ni (x : Nat) (l : List Nat) : oNotIn (.int x) (.lst (niL l)) = some (.bl (!decide (x ∈ l))) := by
  have h : inD (.int x) (.lst (niL l)) = some (decide (x ∈ l)) := by
    show (if flatD (.int x) && (niL l).all flatD then some ((niL l).any fun y => deq y (.int x)) else _) = _
    rw [flat_ni, any_ni]
    rfl
  unfold oNotIn
  rw [h]
  rfl
def putK (x : Nat) (A : List Nat) : List Nat := if x ∈ A then A else A ++ [x]
def putsK (xs A : List Nat) : List Nat := xs.foldl (fun A x => putK x A) A
theorem mem_putK {x y : Nat} {A : List Nat} : x ∈ putK y A ↔ x ∈ A ∨ x = y := by
  unfold putK
  by_cases h : y ∈ A
  · rw [if_pos h]
    exact ⟨.inl, fun z => z.elim id fun e => e ▸ h⟩
  · rw [if_neg h, List.mem_append, List.mem_singleton]
theorem mem_putsK {x : Nat} : ∀ {xs A : List Nat}, x ∈ putsK xs A ↔ x ∈ A ∨ x ∈ xs
  | [], A => by simp [putsK]
  | y :: xs, A => by
    have ih := mem_putsK (x := x) (xs := xs) (A := putK y A)
    show x ∈ putsK xs (putK y A) ↔ _
    rw [ih, mem_putK, List.mem_cons]
    constructor
    · rintro ((h | h) | h)
      · exact .inl h
      · exact .inr (.inl h)
      · exact .inr (.inr h)
    · rintro (h | h | h)
      · exact .inl (.inl h)
      · exact .inl (.inr h)
      · exact .inr h
/-- small numbers, each once -/
structure Few (b : Nat) (A : List Nat) : Prop where
  nd : A.Nodup
  lt : ∀ x ∈ A, x < b
theorem Few.nil {b : Nat} : Few b [] := ⟨List.nodup_nil, fun _ h => by cases h⟩
theorem Few.len {b : Nat} {A : List Nat} (h : Few b A) : A.length ≤ b := by
  have := nd_len (m := List.range b) h.nd fun x hx => List.mem_range.mpr (h.lt x hx)
  simpa using this
theorem Few.put {b x : Nat} {A : List Nat} (h : Few b A) (hx : x < b) : Few b (putK x A) := by
  unfold putK
  by_cases e : x ∈ A
  · rw [if_pos e]; exact h
  · rw [if_neg e]
    refine ⟨List.nodup_append.mpr ⟨h.nd, List.nodup_cons.mpr ⟨fun z => (by cases z), List.nodup_nil⟩, fun a ha c hc z => ?_⟩, fun y hy => ?_⟩
    · rw [List.mem_singleton.mp hc] at z; exact e (z ▸ ha)
    · exact (List.mem_append.mp hy).elim (h.lt y) fun z => List.mem_singleton.mp z ▸ hx
theorem Few.puts {b : Nat} : ∀ {xs A : List Nat}, Few b A → (∀ x ∈ xs, x < b) → Few b (putsK xs A)
  | [], A, h, _ => h
  | x :: xs, A, h, hx => (h.put (hx x List.mem_cons_self)).puts fun y hy => hx y (List.mem_cons_of_mem _ hy)
section
variable {a0 a1 a2 a3 a4 : Option Slot}
theorem sh_step1 {b x : Nat} {A : List Nat} (h : Few b A) (hb : b < 1000) : b_law_shared_1 [a0, a1, a2, some (.own (.lst (niL A))), a4, some (.val (.int x))] = .ok (.nx [a0, a1, a2, some (.own (.lst (niL (putK x A)))), a4, some (.val (.int x))]) := by
  have hl := h.len
  have n1 := notin_ni x A
  have ll : (niL A).length < 1000000 := by rw [niL_len]; omega
  unfold b_law_shared_1 putK
  by_cases hx : x ∈ A
  · rw [decide_eq_true hx] at n1
    simp -implicitDefEqProofs (disch := (first | assumption | omega | (simp only [ngs]; done) | decide)) only [ev, R.bind_ok, R.bind_ex, R.st_ok, R.st_ex, R.of_some, List.length_map, n1]
    rw [if_pos hx]
  · rw [decide_eq_false hx] at n1
    simp -implicitDefEqProofs (disch := (first | assumption | omega | (simp only [ngs]; done) | decide)) only [ev, R.bind_ok, R.bind_ex, R.st_ok, R.st_ex, R.of_some, List.length_map, n1]
    rw [if_neg hx, niL_app]
    rfl
theorem sh_loop1 {b : Nat} (hb : b < 1000) : ∀ (xs A : List Nat), Few b A → (∀ x ∈ xs, x < b) →
    forL (gVar 5) [5] b_law_shared_1 (niL xs) [a0, a1, a2, some (.own (.lst (niL A))), a4, none] = .ok (.nx [a0, a1, a2, some (.own (.lst (niL (putsK xs A)))), a4, none])
  | [], A, _, _ => by rw [show niL [] = [] from rfl, f_n]; rfl
  | x :: xs, A, h, hx => by
    have st := fun a0 a1 a2 a4 => sh_step1 (a0 := a0) (a1 := a1) (a2 := a2) (a4 := a4) (x := x) h hb
    have ih := sh_loop1 hb xs (putK x A) (h.put (hx x List.mem_cons_self)) fun y hy => hx y (List.mem_cons_of_mem _ hy)
    rw [show niL (x :: xs) = .int x :: niL xs from rfl, f_c]
    simp -implicitDefEqProofs (disch := (first | assumption | omega | (simp only [ngs]; done) | decide)) only [ev, R.bind_ok, R.bind_ex, R.st_ok, R.st_ex, R.of_some, List.length_map, st, ih]
    rfl
def shAdd (T : List (List Nat)) (A : List Nat) (l : Lnk) : List Nat := if l.2 then putK l.1 (putsK (T.getD l.1 []) A) else putsK (T.getD l.1 []) A
def shL (T : List (List Nat)) (ls : List Lnk) (A : List Nat) : List Nat := ls.foldl (shAdd T) A
theorem shAdd_few {b : Nat} {T : List (List Nat)} {A : List Nat} {l : Lnk} (h : Few b A) (hl : l.1 < b) (hT : ∀ x ∈ T.getD l.1 [], x < b) : Few b (shAdd T A l) := by
  unfold shAdd
  split
  · exact (h.puts hT).put hl
  · exact h.puts hT
theorem mem_shAdd {T : List (List Nat)} {A : List Nat} {l : Lnk} {x : Nat} : x ∈ shAdd T A l ↔ x ∈ A ∨ ((l.2 = true ∧ x = l.1) ∨ x ∈ T.getD l.1 []) := by
  unfold shAdd
  by_cases h : l.2 = true
  · rw [if_pos h, mem_putK, mem_putsK]
    constructor
    · rintro ((h1 | h1) | h1)
      · exact .inl h1
      · exact .inr (.inr h1)
      · exact .inr (.inl ⟨h, h1⟩)
    · rintro (h1 | ⟨_, h1⟩ | h1)
      · exact .inl (.inl h1)
      · exact .inr h1
      · exact .inl (.inr h1)
  · rw [if_neg h, mem_putsK]
    constructor
    · rintro (h1 | h1)
      · exact .inl h1
      · exact .inr (.inr h1)
    · rintro (h1 | ⟨h2, _⟩ | h1)
      · exact .inl h1
      · exact absurd h2 h
      · exact .inr h1
theorem mem_shL {T : List (List Nat)} {x : Nat} : ∀ {ls : List Lnk} {A : List Nat}, x ∈ shL T ls A ↔ x ∈ A ∨ ∃ l ∈ ls, (l.2 = true ∧ x = l.1) ∨ x ∈ T.getD l.1 []
  | [], A => by simp [shL]
  | l :: ls, A => by
    have ih := mem_shL (T := T) (x := x) (ls := ls) (A := shAdd T A l)
    show x ∈ shL T ls (shAdd T A l) ↔ _
    rw [ih, mem_shAdd]
    simp only [List.mem_cons, exists_eq_or_imp, or_assoc]
theorem sh_step2 {b : Nat} {T : List (List Nat)} {A : List Nat} {l : Lnk} {o5 : Option Slot} (hb : b < 1000) (h : Few b A) (hl : l.1 < b) (hT : l.1 < T.length) (hTb : ∀ x ∈ T.getD l.1 [], x < b) :
    b_law_shared_2 [a0, some (.own (.lst (T.map fun l => .lst (niL l)))), a2, some (.own (.lst (niL A))), some (.val (lkD l)), none] = .ok (.nx [a0, some (.own (.lst (T.map fun l => .lst (niL l)))), a2, some (.own (.lst (niL (shAdd T A l)))), some (.val (lkD l)), none]) := by
  have hg : (T.map fun l => D.lst (niL l))[l.1]? = some (.lst (niL (T.getD l.1 []))) := by
    rw [List.getElem?_map, List.getD_eq_getElem?_getD, List.getElem?_eq_getElem hT]; rfl
  have lp := fun a0 a1 a2 a4 => sh_loop1 (a0 := a0) (a1 := a1) (a2 := a2) (a4 := a4) hb (T.getD l.1 []) A h hTb
  have hB := h.puts hTb
  have n1 := notin_ni l.1 (putsK (T.getD l.1 []) A)
  have bl := hB.len
  generalize hBB : putsK (T.getD l.1 []) A = B at *
  have ll : (niL B).length < 1000000 := by rw [niL_len]; omega
  unfold b_law_shared_2 shAdd
  rw [hBB]
  cases h2 : l.2 with
  | false =>
    have c : decide (bI l.2 = 1) = false := by rw [h2]; decide
    simp -implicitDefEqProofs (disch := (first | assumption | omega | (simp only [ngs]; done) | decide)) only [ev, R.bind_ok, R.bind_ex, R.st_ok, R.st_ex, R.of_some, List.length_map, lk_0, lk_1, hg, lp, c]
    rfl
  | true =>
    have c : decide (bI l.2 = 1) = true := by rw [h2]; decide
    unfold putK
    by_cases hx : l.1 ∈ B
    · rw [decide_eq_true hx] at n1
      simp -implicitDefEqProofs (disch := (first | assumption | omega | (simp only [ngs]; done) | decide)) only [ev, R.bind_ok, R.bind_ex, R.st_ok, R.st_ex, R.of_some, List.length_map, lk_0, lk_1, hg, lp, c, n1]
      rw [if_pos trivial, if_pos hx]
    · rw [decide_eq_false hx] at n1
      simp -implicitDefEqProofs (disch := (first | assumption | omega | (simp only [ngs]; done) | decide)) only [ev, R.bind_ok, R.bind_ex, R.st_ok, R.st_ex, R.of_some, List.length_map, lk_0, lk_1, hg, lp, c, n1]
      rw [if_pos trivial, if_neg hx, niL_app]
      rfl
theorem sh_loop2 {b : Nat} {T : List (List Nat)} (hb : b < 1000) : ∀ (ls : List Lnk) (A : List Nat), Few b A → (∀ l ∈ ls, l.1 < b ∧ l.1 < T.length ∧ ∀ x ∈ T.getD l.1 [], x < b) →
    forL (gVar 4) [4, 5] b_law_shared_2 (ls.map lkD) [a0, some (.own (.lst (T.map fun l => .lst (niL l)))), a2, some (.own (.lst (niL A))), none, none] = .ok (.nx [a0, some (.own (.lst (T.map fun l => .lst (niL l)))), a2, some (.own (.lst (niL (shL T ls A)))), none, none])
  | [], A, _, _ => by rw [List.map_nil, f_n]; rfl
  | l :: ls, A, h, hl => by
    obtain ⟨h1, h2, h3⟩ := hl l List.mem_cons_self
    have st := fun a0 a2 => sh_step2 (a0 := a0) (a2 := a2) (o5 := none) hb h h1 h2 h3
    have ih := sh_loop2 hb ls (shAdd T A l) (shAdd_few h h1 h3) fun x hx => hl x (List.mem_cons_of_mem _ hx)
    rw [List.map_cons, f_c]
    simp -implicitDefEqProofs (disch := (first | assumption | omega | (simp only [ngs]; done) | decide)) only [ev, R.bind_ok, R.bind_ex, R.st_ok, R.st_ex, R.of_some, List.length_map, st, ih]
    rfl
end
/-- the table of the plan -/
structure ShT (P : List Pn) (T : List (List Nat)) : Prop where
  few : ∀ j, j < T.length → Few 100 (T.getD j [])
  mem : ∀ j, j < T.length → ∀ x, x ∈ T.getD j [] ↔ Sh P j x
theorem getD_app1 {T : List (List Nat)} {A : List Nat} {j : Nat} (h : j < T.length) : (T ++ [A]).getD j [] = T.getD j [] := by
  rw [List.getD_eq_getElem?_getD, List.getElem?_append_left h, ← List.getD_eq_getElem?_getD]
theorem getD_app2 {T : List (List Nat)} {A : List Nat} : (T ++ [A]).getD T.length [] = A := by
  rw [List.getD_eq_getElem?_getD, List.getElem?_append_right (Nat.le_refl _), Nat.sub_self]; rfl
theorem sh_loop3 {m : Nat} {P : List Pn} (ho : PlanOk m P) (hl : P.length ≤ 100) : ∀ (W Q : List Pn) (T : List (List Nat)), P = Q ++ W → T.length = Q.length → ShT P T →
    ∃ T', T'.length = P.length ∧ ShT P T' ∧ forL (gVar 2) [2, 3, 4, 5] b_law_shared_3 ((List.range' Q.length W.length).map fun i : Nat => .int i) [some (.val (.lst (P.map pnD))), some (.own (.lst (T.map fun l => .lst (niL l)))), none, none, none, none] =
      .ok (.nx [some (.val (.lst (P.map pnD))), some (.own (.lst (T'.map fun l => .lst (niL l)))), none, none, none, none])
  | [], Q, T, e, eT, hT => by
    rw [List.append_nil] at e
    refine ⟨T, by rw [eT, e], hT, ?_⟩
    rw [List.length_nil, List.range'_zero, List.map_nil, f_n]
  | p :: W, Q, T, e, eT, hT => by
    have hp : P[Q.length]? = some p := by rw [e, List.getElem?_append_right (Nat.le_refl _), Nat.sub_self]; rfl
    have hj : Q.length < P.length := by rw [e, List.length_append, List.length_cons]; omega
    have hlt := (ho _ p hp).lt
    have hA : ∀ l ∈ p.ls, l.1 < 100 ∧ l.1 < T.length ∧ ∀ x ∈ T.getD l.1 [], x < 100 := fun l hx => by
      have := hlt l hx
      exact ⟨by omega, by omega, (hT.few l.1 (by omega)).lt⟩
    have lp := fun a0 a2 => sh_loop2 (a0 := a0) (a2 := a2) (b := 100) (T := T) (by decide) p.ls [] Few.nil hA
    have hfew : ∀ (ls : List Lnk) (A : List Nat), Few 100 A → (∀ l ∈ ls, l.1 < 100 ∧ l.1 < T.length ∧ ∀ x ∈ T.getD l.1 [], x < 100) → Few 100 (shL T ls A) := by
      intro ls
      induction ls with
      | nil => intro A h _; exact h
      | cons l ls ih =>
        intro A h hx
        obtain ⟨h1, _, h3⟩ := hx l List.mem_cons_self
        exact ih _ (shAdd_few h h1 h3) fun y hy => hx y (List.mem_cons_of_mem _ hy)
    have f1 := hfew p.ls [] Few.nil hA
    have T' : ShT P (T ++ [shL T p.ls []]) := by
      refine ⟨fun j hj => ?_, fun j hj x => ?_⟩
      · by_cases h : j < T.length
        · rw [getD_app1 h]; exact hT.few j h
        · rw [List.length_append, List.length_singleton] at hj
          have : j = T.length := by omega
          subst this
          rw [getD_app2]; exact f1
      · by_cases h : j < T.length
        · rw [getD_app1 h]; exact hT.mem j h x
        · rw [List.length_append, List.length_singleton] at hj
          have : j = T.length := by omega
          subst this
          rw [getD_app2, mem_shL, Sh.iff, eT, lks_get hp]
          constructor
          · rintro (h | ⟨l, h1, h2⟩)
            · cases h
            · refine ⟨l, h1, h2.imp id fun h3 => ?_⟩
              exact (hT.mem l.1 (hA l h1).2.1 x).mp h3
          · rintro ⟨l, h1, h2⟩
            refine .inr ⟨l, h1, h2.imp id fun h3 => ?_⟩
            exact (hT.mem l.1 (hA l h1).2.1 x).mpr h3
    obtain ⟨T2, t1, t2, t3⟩ := sh_loop3 ho hl W (Q ++ [p]) (T ++ [shL T p.ls []]) (by rw [e, List.append_assoc]; rfl) (by rw [List.length_append, List.length_append, eT]; rfl) T'
    rw [List.length_append, List.length_singleton] at t3
    refine ⟨T2, t1, t2, ?_⟩
    have x1 := mapG (f := pnD) hp
    have tl : (T.map fun l => D.lst (niL l)).length < 1000000 := by rw [List.length_map]; omega
    have st : b_law_shared_3 [some (.val (.lst (P.map pnD))), some (.own (.lst (T.map fun l => .lst (niL l)))), some (.val (.int Q.length)), none, none, none] =
        .ok (.nx [some (.val (.lst (P.map pnD))), some (.own (.lst ((T ++ [shL T p.ls []]).map fun l => .lst (niL l)))), some (.val (.int Q.length)), some (.val (.lst (niL (shL T p.ls [])))), none, none]) := by
      unfold b_law_shared_3
      rw [show niL [] = [] from rfl] at lp
      simp -implicitDefEqProofs (disch := (first | assumption | omega | (simp only [ngs]; done) | decide)) only [ev, R.bind_ok, R.bind_ex, R.st_ok, R.st_ex, R.of_some, List.length_map, x1, pn_0, lp]
      rw [List.map_append]
      rfl
    rw [List.length_cons, List.range'_succ, List.map_cons, f_c]
    simp -implicitDefEqProofs (disch := (first | assumption | omega | (simp only [ngs]; done) | decide)) only [ev, R.bind_ok, R.bind_ex, R.st_ok, R.st_ex, R.of_some, List.length_map, st, t3]
theorem law_shared_ok {m : Nat} {P : List Pn} (ho : PlanOk m P) (hl : P.length ≤ 100) : ∃ T, T.length = P.length ∧ ShT P T ∧ d_law_shared [plnD P] = .ok (.lst (T.map fun l => .lst (niL l))) := by
  obtain ⟨T, h1, h2, h3⟩ := sh_loop3 ho hl P [] [] rfl rfl ⟨fun j h => by simp at h, fun j h => by simp at h⟩
  refine ⟨T, h1, h2, ?_⟩
  rw [List.length_nil, ← List.range_eq_range', List.map_nil] at h3
  have l9 : P.length < 1000000000 := by omega
  rw [e_law_shared]
  unfold b_law_shared plnD
  simp -implicitDefEqProofs (disch := (first | assumption | omega | (simp only [ngs]; done) | decide)) only [ev, R.bind_ok, R.bind_ex, R.st_ok, R.st_ex, R.of_some, List.length_map, h3]
end Tw

set_option maxHeartbeats 2000000
namespace Tw
open PySem
section
variable {a0 a1 a3 : Option Slot}
end
theorem ab_trans {P : List Pn} {i j k : Nat} (h : Ab P i j) (k' : Ab P j k) : Ab P i k := by
  induction h with
  | base h => exact .step h k'
  | step h _ ih => exact .step h (ih k')
theorem shp_wds {l : List Wd} (h : ∀ w ∈ l, isW w = true) : shp 60 (.tup (stL l)) = true := by
  have sm : ∀ w : Wd, isW w = true → strOkD (S w) = true := fun w h => by
    unfold strOkD S
    simp only [List.all_toArray, List.all_eq_true, decide_eq_true_eq]
    cases w with
    | nil => intro c hc; cases hc
    | cons a l =>
      intro c hc
      have h3 : (a :: l).all isLD = true := by
        rw [show isW (a :: l) = (decide (l.length < 8) && isL a && (a :: l).all isLD) from rfl] at h
        exact (Bool.and_eq_true_iff.mp h).2
      have h4 := List.all_eq_true.mp h3 c hc
      have hb : (∀ x ∈ LT, x < 0x110000) ∧ ∀ x ∈ DG10, x < 0x110000 := by decide +kernel
      unfold isLD at h4
      rcases Bool.or_eq_true_iff.mp h4 with h5 | h5
      · exact hb.1 c (of_decide_eq_true h5)
      · exact hb.2 c (of_decide_eq_true h5)
  have hs : ∀ l : List Wd, (∀ w ∈ l, isW w = true) → (stL l).all (shp 59) = true := by
    intro l
    induction l with
    | nil => intro _; rfl
    | cons w l ih =>
      intro h
      show (shp 59 (.str (S w)) && (stL l).all (shp 59)) = true
      rw [ih fun w hw => h w (List.mem_cons_of_mem _ hw), Bool.and_true]
      exact sm w (h w List.mem_cons_self)
  exact hs l h
/-- the words of a law -/
def lws (f b : List Nat) (z : Bool) (t n : Nat) : List Wd := (List.range n).map (wordL f b z t)
theorem lws_ok {f b : List Nat} {z : Bool} {t n : Nat} (hf : isFr f) (hb : isBk b) (hn : n ≤ 62) : Wds (lws f b z t n) ∧ (lws f b z t n).length = n := by
  unfold lws
  refine ⟨⟨fun w hw => ?_, ?_, ?_⟩, by simp⟩
  · obtain ⟨k, _, rfl⟩ := List.mem_map.mp hw
    exact (word_ok hf hb).1
  · exact nodup_map_of (fun i hi j hj e => word_inj (by have := List.mem_range.mp hi; omega) (by have := List.mem_range.mp hj; omega) e) List.nodup_range
  · simp; omega
theorem li_list {L : List CL} {nm : List Wd} : itO "Library" "kinds" (liD L nm) = some (L.map kiD) := by
  show (if "Library" = "Library" then (match lookD ["kinds", "places", "names"] [.lst (L.map kiD), plD (ttl L), .tup (stL nm)] "kinds" with | some (.lst l) => some l | _ => none) else none) = _
  rw [if_pos rfl, look_h]
end Tw

set_option maxHeartbeats 2000000
namespace Tw
open PySem
theorem look_gen : ∀ {K : List Str} {V : List D} {i : Nat} {x : Str}, K.Nodup → K.length = V.length → K[i]? = some x → lookD K V x = V[i]?
  | [], V, i, x, _, _, h => by simp at h
  | k :: K, [], i, x, _, e, _ => by simp at e
  | k :: K, v :: V, 0, x, _, _, h => by
    obtain rfl : k = x := by simpa using h
    exact look_h
  | k :: K, v :: V, i + 1, x, n, e, h => by
    obtain ⟨n1, n2⟩ := List.nodup_cons.mp n
    rw [List.getElem?_cons_succ] at h
    have hx := List.mem_of_getElem? h
    rw [look_t (fun z : x = k => n1 (by rw [← z]; exact hx)), look_gen n2 (by simpa using e) h, List.getElem?_cons_succ]
theorem putd_s {i : Nat} {k e : DE} {ρ : DEnv} {ks : List Str} {vs : List D} {s : Str} {v : D} (he : e ρ = .ok v) (hi : ρ[i]? = some (some (.own (.dct ks vs)))) (hk : k ρ = .ok (.str s)) (hl : ks.length < 1000000) : sPutD i k e ρ = .ok (.nx (ρ.set i (some (.own (.dct (dPutK s ks) (dPutV s v ks vs)))))) := by
  unfold sPutD; rw [he]; simp only [R.st_ok, hi, hk, if_pos (Nat.lt_trans hl (show 1000000 < lineD by decide))]
def keysOf (ws : List Wd) (n : Nat) : List Str := (wmap ws (List.range n)).map S
theorem keysOf_len {ws : List Wd} {n : Nat} : (keysOf ws n).length = n := by unfold keysOf wmap; simp
theorem keysOf_get {ws : List Wd} {n i : Nat} (h : i < n) : (keysOf ws n)[i]? = some (S (ws.getD i [])) := by
  unfold keysOf wmap; rw [List.getElem?_map, List.getElem?_map, List.getElem?_range h]; rfl
theorem keysOf_nd {ws : List Wd} {n : Nat} (nd : ws.Nodup) (h : n ≤ ws.length) : (keysOf ws n).Nodup := by
  unfold keysOf wmap
  rw [List.map_map]
  refine nodup_map_of (fun a ha b hb e => ?_) List.nodup_range
  have ha := List.mem_range.mp ha
  have hb := List.mem_range.mp hb
  exact winj nd (by omega) (by omega) (S_inj e)
theorem keysOf_succ {ws : List Wd} {n : Nat} : keysOf ws (n + 1) = keysOf ws n ++ [S (ws.getD n [])] := by
  unfold keysOf wmap; rw [List.range_succ, List.map_append, List.map_append]; rfl
section
variable {ws : List Wd} {T : List Int}
end
def cnL (T : List Int) (ls : List Lnk) (a : Int) : Int := ls.foldl (fun a l => if l.2 then a else a + T.getD l.1 0) a
def cnTab (P : List Pn) (b : Nat) : Nat → List Int
  | 0 => []
  | k + 1 => cnTab P b k ++ [cnL (cnTab P b k) (lks P k) (if k = b then 1 else 0)]
theorem cnTab_len {P : List Pn} {b : Nat} : ∀ k, (cnTab P b k).length = k
  | 0 => rfl
  | k + 1 => by unfold cnTab; rw [List.length_append, cnTab_len k]; rfl
theorem truD_b (a : Bool) : truD (.bl a) = some a := rfl
section
variable {ws lb nm : List Wd} {P : List Pn} {L : D} {b k : Nat}
theorem S_beq' (a b : Wd) : (S a == S b) = decide (a = b) := by
  by_cases h : a = b
  · subst h; rw [decide_eq_true rfl]; exact beq_self_eq_true _
  · rw [decide_eq_false h]; exact beq_eq_false_iff_ne.mpr fun e => h (S_inj e)
theorem getitem_ok {n : Nat} (hw : Wds ws) (hn : n ≤ ws.length) (hk : k < n) : d_Library_getitem [liD (clsOf ws lb P n) nm, .str (S (ws.getD k []))] = .ok (kiD (clOf ws lb P k)) := by
  have hm : ws.getD k [] ∈ ttl (clsOf ws lb P n) := by
    rw [ttl_cls]; exact List.mem_map.mpr ⟨k, List.mem_range.mpr hk, rfl⟩
  obtain ⟨c, h1, h2, h3, h4⟩ := fnd_spec hm
  have e := fnd_cls (lb := lb) (P := P) hw hn hk
  rw [h1] at e
  have e := Option.some.inj e
  have f1 : oFld "places" (liD (clsOf ws lb P n) nm) = some (plD (ttl (clsOf ws lb P n))) := by rw [liD, p_fld, look_t (by decide +kernel), look_h]
  have f2 : oFld "kinds" (liD (clsOf ws lb P n) nm) = some (.lst ((clsOf ws lb P n).map kiD)) := by rw [liD, p_fld, look_h]
  have n1 := oNotIn_of (oIn_plD (ws.getD k []) (ttl (clsOf ws lb P n)))
  rw [decide_eq_true hm] at n1
  have ix := oIx_plD hm
  have hki : ((clsOf ws lb P n).map kiD)[(ttl (clsOf ws lb P n)).idxOf (ws.getD k [])]? = some (kiD (clOf ws lb P k)) := by rw [List.getElem?_map, h4, e]; rfl
  rw [e_Library_getitem]
  unfold b_Library_getitem
  simp -implicitDefEqProofs (disch := (first | assumption | omega | (simp only [ngs]; done) | decide)) only [ev, R.bind_ok, R.bind_ex, R.st_ok, R.st_ex, R.of_some, List.length_map, f1, f2, n1, ix, hki]
theorem contains_ok {n : Nat} (hw : Wds ws) (hn : n ≤ ws.length) (hk : k < n) : d_Library_contains [liD (clsOf ws lb P n) nm, .str (S (ws.getD k []))] = .ok (.bl true) := by
  have hm : ws.getD k [] ∈ ttl (clsOf ws lb P n) := by
    rw [ttl_cls]; exact List.mem_map.mpr ⟨k, List.mem_range.mpr hk, rfl⟩
  have f1 : oFld "places" (liD (clsOf ws lb P n) nm) = some (plD (ttl (clsOf ws lb P n))) := by rw [liD, p_fld, look_t (by decide +kernel), look_h]
  have n1 := oIn_plD (ws.getD k []) (ttl (clsOf ws lb P n))
  rw [decide_eq_true hm] at n1
  rw [e_Library_contains]
  unfold b_Library_contains
  simp -implicitDefEqProofs (disch := (first | assumption | omega | (simp only [ngs]; done) | decide)) only [ev, R.bind_ok, R.bind_ex, R.st_ok, R.st_ex, R.of_some, List.length_map, f1, n1]
theorem ixo_li (d : List D → R D) (L : List CL) (nm : List Wd) (y : D) : ixoS "Library" d (liD L nm) y = d [liD L nm, y] := ixo_o
theorem sum_ints (l : List Int) : oSum (.lst (l.map D.int)) = some (.int l.sum) := by
  have : intsD (l.map D.int) = some l := by
    induction l with
    | nil => rfl
    | cons a l ih => rw [List.map_cons]; unfold intsD; rw [ih]; rfl
  show (match intsD (l.map D.int) with | some ns => some (D.int ns.sum) | none => none) = _
  rw [this]
/-- how many copies of b stand in an object of t -/
noncomputable def cc (P : List Pn) (t b : Nat) : Int := (cnTab P b P.length).getD t 0 + ((shI P t).map fun k => (cnTab P b P.length).getD k 0).sum
end
end Tw

set_option maxHeartbeats 2000000
namespace Tw
open PySem
def tuN (q : List Nat) : D := .tup (niL q)
theorem deqL_ni : ∀ a b : List Nat, deqL (niL a) (niL b) = decide (a = b)
  | [], [] => rfl
  | [], b :: bs => rfl
  | a :: as, [] => rfl
  | a :: as, b :: bs => by
    show (deq (.int a) (.int b) && deqL (niL as) (niL bs)) = _
    rw [deqL_ni as bs, deq_int]
    by_cases h : a = b
    · subst h; simp
    · have h2 : ¬ (a : Int) = b := by omega
      simp [h, h2]
theorem shp_ni (k : Nat) : ∀ l : List Nat, (niL l).all (shp k) = true
  | [] => rfl
  | a :: l => by
    show (shp k (.int a) && (niL l).all (shp k)) = true
    rw [shp_ni k l]
    cases k <;> rfl
theorem shp_tuN (k : Nat) (q : List Nat) : shp (k + 1) (tuN q) = true := shp_ni k q
/-- the step that the link l makes from the way q -/
def stp (q : List Nat) (l : Lnk) : List Nat := if l.2 then [l.1] else q ++ [l.1]
def lst (q : List Nat) : Nat := q.getLast?.getD 0
theorem lst_app (q : List Nat) (k : Nat) : lst (q ++ [k]) = k := by unfold lst; rw [List.getLast?_append]; rfl
/-- what the steps reach from w -/
inductive Rch (P : List Pn) (w : List Nat) : List Nat → Prop
  | refl : Rch P w w
  | step {q : List Nat} {l : Lnk} : Rch P w q → l ∈ lks P (lst q) → Rch P w (stp q l)
/-- a way: own steps down -/
def Vw (P : List Pn) (n : Nat) : List Nat → Prop
  | [] => False
  | [a] => a < n
  | a :: b :: r => a < n ∧ (b, false) ∈ lks P a ∧ Vw P n (b :: r)
theorem Vw.ne {P : List Pn} {n : Nat} {q : List Nat} (h : Vw P n q) : q ≠ [] := fun e => by rw [e] at h; exact h
theorem Vw.last {P : List Pn} {n : Nat} : ∀ {q : List Nat}, Vw P n q → lst q < n ∧ q.getLast? = some (lst q)
  | [], h => h.elim
  | [a], h => ⟨h, rfl⟩
  | a :: b :: r, h => by
    have := Vw.last h.2.2
    unfold lst at this ⊢
    rw [List.getLast?_cons_cons]
    exact this
theorem Vw.app {P : List Pn} {n k : Nat} (hk : k < n) : ∀ {q : List Nat}, Vw P n q → (k, false) ∈ lks P (lst q) → Vw P n (q ++ [k])
  | [], h, _ => h.elim
  | [a], h, hl => ⟨h, hl, hk⟩
  | a :: b :: r, h, hl => ⟨h.1, h.2.1, Vw.app hk h.2.2 (by unfold lst at hl ⊢; rw [List.getLast?_cons_cons] at hl; exact hl)⟩
theorem sub_rng {a b : Nat} (h : a ≤ b) : (List.range a).reverse.Sublist (List.range b).reverse := by
  induction b with
  | zero => have : a = 0 := by omega
            subst this; exact List.Sublist.slnil
  | succ b ih =>
    by_cases e : a = b + 1
    · subst e; exact List.Sublist.refl _
    · rw [List.range_succ, List.reverse_append]
      exact (ih (by omega)).cons _
theorem Vw.sub {P : List Pn} {m n : Nat} (ho : PlanOk m P) : ∀ {q : List Nat} {b : Nat}, Vw P n q → (∀ a r, q = a :: r → a < b) → q.Sublist (List.range b).reverse
  | [], _, h, _ => h.elim
  | [a], b, h, hb => by
    have := hb a [] rfl
    have s := sub_rng (show a + 1 ≤ b by omega)
    rw [List.range_succ, List.reverse_append] at s
    exact ((List.nil_sublist _).cons₂ a).trans s
  | a :: c :: r, b, h, hb => by
    have := hb a _ rfl
    have s := sub_rng (show a + 1 ≤ b by omega)
    rw [List.range_succ, List.reverse_append] at s
    exact ((Vw.sub ho (b := a) h.2.2 (fun x y e => by cases e; exact lks_lt ho h.2.1)).cons₂ a).trans s
section
variable {P : List Pn} {m n : Nat}
theorem lk_tri (l : Lnk) (h : l.2 = false) : l = (l.1, false) := by cases l; cases h; rfl
theorem stp_vw (ho : PlanOk m P) {q : List Nat} (h : Vw P n q) {l : Lnk} (hl : l ∈ lks P (lst q)) : Vw P n (stp q l) := by
  have := lks_lt ho hl
  have := h.last.1
  unfold stp
  cases e : l.2 with
  | true => rw [if_pos rfl]; show l.1 < n; omega
  | false =>
    rw [if_neg Bool.false_ne_true]
    exact h.app (by omega) (lk_tri l e ▸ hl)
theorem Rch.vw (ho : PlanOk m P) {w q : List Nat} (hw : Vw P n w) (h : Rch P w q) : Vw P n q := by
  induction h with
  | refl => exact hw
  | step _ hl ih => exact stp_vw ho ih hl
end
section
variable {P : List Pn} {m n : Nat} {a0 a1 : Option Slot}
end
end Tw

set_option maxHeartbeats 2000000
namespace Tw
open PySem
def hdn (q : List Nat) : Nat := q.headD 0
section
variable {P : List Pn} {m n : Nat}
theorem vw_link : ∀ {w : List Nat} {k : Nat} {r : List Nat}, w ≠ [] → Vw P n (w ++ k :: r) → (k, false) ∈ lks P (lst w)
  | [], _, _, h, _ => absurd rfl h
  | [a], _, _, _, h => h.2.1
  | a :: b :: w, k, r, _, h => by
    have := vw_link (w := b :: w) (k := k) (r := r) (by simp) h.2.2
    unfold lst at this ⊢
    rw [List.getLast?_cons_cons]
    exact this
theorem rch_app {w : List Nat} : ∀ (r w' : List Nat), w' ≠ [] → Rch P w w' → Vw P n (w' ++ r) → Rch P w (w' ++ r)
  | [], w', _, h, _ => by rw [List.append_nil]; exact h
  | k :: r, w', hne, h, hv => by
    have hl := vw_link hne hv
    have h' : Rch P w (w' ++ [k]) := .step (l := (k, false)) h hl
    have := rch_app r (w' ++ [k]) (by simp) h' (by rw [List.append_assoc]; exact hv)
    rw [List.append_assoc] at this
    exact this
theorem lst_stp (q : List Nat) (l : Lnk) : lst (stp q l) = l.1 := by
  unfold stp
  split
  · rfl
  · exact lst_app q l.1
theorem sh_rch {w : List Nat} {j x : Nat} (h : Sh P j x) : ∀ w', Rch P w w' → lst w' = j → Rch P w [x] := by
  induction h with
  | @base j l h1 h2 =>
    intro w' hr e
    subst e
    have := Rch.step hr h1
    unfold stp at this
    rw [if_pos h2] at this
    exact this
  | @step j x l h1 _ ih =>
    intro w' hr e
    subst e
    exact ih _ (.step hr h1) (lst_stp _ _)
theorem sh_of {j k : Nat} {l : Lnk} (h : k = j ∨ Ab P j k) (hl : l ∈ lks P k) (h2 : l.2 = true) : Sh P j l.1 := by
  rcases h with rfl | h
  · exact .base hl h2
  · induction h with
    | base h => exact .step h (.base hl h2)
    | step h _ ih => exact .step h (ih hl)
theorem vw_ab : ∀ {r w : List Nat}, w ≠ [] → Vw P n (w ++ r) → lst (w ++ r) = lst w ∨ Ab P (lst w) (lst (w ++ r))
  | [], w, _, _ => by rw [List.append_nil]; exact .inl rfl
  | k :: r, w, hne, h => by
    have hl := vw_link hne h
    have e : w ++ k :: r = (w ++ [k]) ++ r := by rw [List.append_assoc]; rfl
    have hb : Ab P (lst w) k := .base (l := (k, false)) hl
    rw [e] at h ⊢
    rcases vw_ab (r := r) (w := w ++ [k]) (by simp) h with z | z
    · rw [lst_app] at z
      rw [z]; exact .inr hb
    · rw [lst_app] at z
      exact .inr (ab_trans hb z)
theorem rch_iff (ho : PlanOk m P) {w q : List Nat} (hw : Vw P n w) (hq : Vw P n q) : Rch P w q ↔ (Sh P (lst w) (hdn q) ∨ q.take w.length = w) := by
  constructor
  · intro h
    have key : Sh P (lst w) (hdn q) ∨ ∃ r, q = w ++ r := by
      clear hq
      induction h with
      | refl => exact .inr ⟨[], (List.append_nil w).symm⟩
      | @step q l hr hl ih =>
        have hv := hr.vw ho hw
        have hk : lst q = lst w ∨ Ab P (lst w) (lst q) := by
          rcases ih with h | ⟨r, rfl⟩
          · right
            cases q with
            | nil => exact hv.elim
            | cons a q =>
              have h1 : Ab P (lst w) a := h.ab
              rcases vw_ab (r := q) (w := [a]) (by simp) hv with z | z
              · have z : lst (a :: q) = a := z
                rw [z]; exact h1
              · exact ab_trans h1 z
          · exact vw_ab hw.ne hv
        unfold stp
        by_cases h2 : l.2 = true
        · rw [if_pos h2]
          exact .inl (sh_of hk hl h2)
        · rw [if_neg h2]
          rcases ih with h | ⟨r, rfl⟩
          · left
            cases q with
            | nil => exact hv.elim
            | cons a q => exact h
          · exact .inr ⟨r ++ [l.1], List.append_assoc _ _ _⟩
    rcases key with h | ⟨r, rfl⟩
    · exact .inl h
    · right; rw [List.take_left]
  · rintro (h | h)
    · have h1 := sh_rch h w .refl rfl
      cases q with
      | nil => exact hq.elim
      | cons a q => exact rch_app q [a] (by simp) h1 hq
    · have e : q = w ++ q.drop w.length := by
        have := List.take_append_drop w.length q
        rw [h] at this
        exact this.symm
      rw [e] at hq ⊢
      exact rch_app _ w hw.ne .refl hq
end
def tld (ws : List Wd) (q : List Nat) : D := .tup (stL (wmap ws q))
theorem wmap_inj {ws : List Wd} (nd : ws.Nodup) : ∀ {a b : List Nat}, (∀ k ∈ a, k < ws.length) → (∀ k ∈ b, k < ws.length) → wmap ws a = wmap ws b → a = b
  | [], [], _, _, _ => rfl
  | [], _ :: _, _, _, h => by simp [wmap] at h
  | _ :: _, [], _, _, h => by simp [wmap] at h
  | a :: as, b :: bs, ha, hb, h => by
    have h : ws.getD a [] :: wmap ws as = ws.getD b [] :: wmap ws bs := h
    obtain ⟨h1, h2⟩ := List.cons.inj h
    rw [winj nd (ha a List.mem_cons_self) (hb b List.mem_cons_self) h1, wmap_inj nd (fun k hk => ha k (List.mem_cons_of_mem _ hk)) (fun k hk => hb k (List.mem_cons_of_mem _ hk)) h2]
theorem deqL_stL2 : ∀ a b : List Wd, deqL (stL a) (stL b) = decide (a = b)
  | [], [] => rfl
  | [], b :: bs => rfl
  | a :: as, [] => rfl
  | a :: as, b :: bs => by
    show (deq (.str (S a)) (.str (S b)) && deqL (stL as) (stL bs)) = _
    rw [deqL_stL2 as bs]
    have : deq (.str (S a)) (.str (S b)) = (S a == S b) := by simp [deq]
    rw [this]
    by_cases h : a = b
    · subst h; simp
    · have h2 : (S a == S b) = false := beq_eq_false_iff_ne.mpr fun e => h (S_inj e)
      simp [h, h2]
section
variable {P : List Pn} {n : Nat} {ws lb nm : List Wd}
theorem Vw.all (ho : PlanOk lb.length P) {q : List Nat} (h : Vw P n q) : (∀ k ∈ q, k < n) ∧ q.length ≤ n := by
  have s := h.sub ho (b := n) fun a r e => by
    rw [e] at h
    cases r with
    | nil => exact h
    | cons b r => exact h.1
  refine ⟨fun k hk => ?_, ?_⟩
  · have := s.subset hk
    rw [List.mem_reverse, List.mem_range] at this
    exact this
  · have := s.length_le
    rwa [List.length_reverse, List.length_range] at this
end
end Tw

set_option maxHeartbeats 2000000
namespace Tw
open PySem
/-- the class j declares x; declares it static -/
def dcl (ws lb : List Wd) (P : List Pn) (x : Wd) (j : Nat) : Bool := decide (x ∈ (prDr ws lb j (P.getD j ⟨[], []⟩)).ns) || decide (x ∈ (prDr ws lb j (P.getD j ⟨[], []⟩)).ss)
/-- the first way that clashes with the first one -/
def clash (st : Nat → Bool) (a b : List Nat) : Bool := !decide (lst b = lst a) || !st (lst b)
def pickW (st : Nat → Bool) : List (List Nat) → List (List Nat)
  | [] => []
  | a :: F => match F.find? (clash st a) with
    | some b => [a, b]
    | none => [a]
def wayD (ws : List Wd) (F : List (List Nat)) : List D := F.map (tld ws)
section
variable {ws lb nm : List Wd} {P : List Pn} {n : Nat}
theorem tld_last (hw : Wds ws) (hn : n ≤ ws.length) {w : List Nat} (hv : Vw P n w) : oIx (tld ws w) (.int (-1)) = some (.str (S (ws.getD (lst w) []))) := by
  have : (stL (wmap ws w)).getLast? = some (.str (S (ws.getD (lst w) []))) := by
    unfold stL wmap
    rw [List.map_map, List.getLast?_map, hv.last.2]
    rfl
  unfold tld
  rw [p_ixt, p_at1, this]
end
end Tw

set_option maxHeartbeats 2000000
namespace Tw
open PySem
theorem comp2_fm {α : Type} {g g1 : DG} {it1 : DI} {vs1 : List Nat} {c1 : DT} {e : DE} {ρ : DEnv} (h : α → D) (r : α → List D) : ∀ l : List α, (∀ x ∈ l, ∃ ρ' l1, g (h x) ρ = .ok ρ' ∧ it1 ρ' = .ok l1 ∧ okW vs1 ρ' = true ∧ compL g1 c1 e (wipD vs1 ρ') l1 = .ok (r x)) → comp2L g it1 vs1 g1 c1 e ρ (l.map h) = .ok (l.flatMap r)
  | [], _ => rfl
  | x :: l, H => by
    obtain ⟨ρ', l1, h1, h2, h3, h4⟩ := H x List.mem_cons_self
    have ih := comp2_fm h r l fun y hy => H y (List.mem_cons_of_mem _ hy)
    rw [List.map_cons, List.flatMap_cons]
    unfold comp2L
    rw [h1]
    simp only [h2, h3, if_true, h4, ih]
theorem comp2_ok {it it1 : DI} {vs vs1 : List Nat} {g g1 : DG} {c1 : DT} {e : DE} {ρ : DEnv} {l ys : List D} (hi : it ρ = .ok l) (ho : okW vs ρ = true) (hc : comp2L g it1 vs1 g1 c1 e (wipD vs ρ) l = .ok ys) (hl : ys.length ≤ 1000000) : eComp2 it vs g it1 vs1 g1 c1 e ρ = .ok (.lst ys) := by
  unfold eComp2
  rw [hi]
  simp only [R.bind_ok]
  rw [if_pos ho, hc]
  exact if_pos (Nat.le_trans hl (by decide))
/-- the ways that are seen in the own part, at most two -/
def vsL (st : Nat → Bool) (dc : Nat → Bool) (T : List (List (List Nat))) (ls : List Lnk) (k : Nat) : List (List Nat) :=
  pickW st (if dc k then [[k]] else (ls.filter fun l => !l.2).flatMap fun l => (T.getD l.1 []).map (k :: ·))
def vsTab (st dc : Nat → Bool) (P : List Pn) : Nat → List (List (List Nat))
  | 0 => []
  | k + 1 => vsTab st dc P k ++ [vsL st dc (vsTab st dc P k) (lks P k) k]
theorem vsTab_len {st dc : Nat → Bool} {P : List Pn} : ∀ k, (vsTab st dc P k).length = k
  | 0 => rfl
  | k + 1 => by unfold vsTab; rw [List.length_append, vsTab_len k]; rfl
theorem pickW_sub {st : Nat → Bool} {F : List (List Nat)} : ∀ q ∈ pickW st F, q ∈ F := by
  intro q hq
  cases F with
  | nil => exact hq
  | cons a F =>
    have e : pickW st (a :: F) = (match F.find? (clash st a) with | some b => [a, b] | none => [a]) := rfl
    rw [e] at hq
    cases h : F.find? (clash st a) with
    | none => rw [h] at hq; rw [List.mem_singleton.mp hq]; exact List.mem_cons_self
    | some b =>
      rw [h] at hq
      rcases List.mem_cons.mp hq with rfl | hq
      · exact List.mem_cons_self
      · rw [List.mem_singleton.mp hq]; exact List.mem_cons_of_mem _ (List.mem_of_find?_eq_some h)
theorem pickW_len {st : Nat → Bool} (F : List (List Nat)) : (pickW st F).length ≤ 2 := by
  cases F with
  | nil => exact Nat.zero_le _
  | cons a F =>
    have e : pickW st (a :: F) = (match F.find? (clash st a) with | some b => [a, b] | none => [a]) := rfl
    rw [e]
    cases F.find? (clash st a) <;> simp
/-- each way in the table begins at its class -/
theorem vsTab_vw {st dc : Nat → Bool} {P : List Pn} {m n : Nat} (ho : PlanOk m P) : ∀ k, k ≤ n → ∀ j, j < k → (∀ q ∈ (vsTab st dc P k).getD j [], Vw P n q ∧ hdn q = j) ∧ ((vsTab st dc P k).getD j []).length ≤ 2
  | 0, _, j, h => by omega
  | k + 1, hk, j, hj => by
    have ih := vsTab_vw (st := st) (dc := dc) (n := n) ho k (by omega)
    have l1 := vsTab_len (st := st) (dc := dc) (P := P) k
    show (∀ q ∈ (vsTab st dc P k ++ [vsL st dc (vsTab st dc P k) (lks P k) k]).getD j [], _) ∧ _
    by_cases hjk : j < k
    · have e : (vsTab st dc P (k + 1)).getD j [] = (vsTab st dc P k).getD j [] := by
        show (vsTab st dc P k ++ [vsL st dc (vsTab st dc P k) (lks P k) k]).getD j [] = _
        rw [List.getD_eq_getElem?_getD, List.getElem?_append_left (by omega), ← List.getD_eq_getElem?_getD]
      show (∀ q ∈ (vsTab st dc P (k + 1)).getD j [], _) ∧ ((vsTab st dc P (k + 1)).getD j []).length ≤ 2
      rw [e]
      exact ih j hjk
    · have ej : j = k := by omega
      subst ej
      have e : (vsTab st dc P (j + 1)).getD j [] = vsL st dc (vsTab st dc P j) (lks P j) j := by
        show (vsTab st dc P j ++ [vsL st dc (vsTab st dc P j) (lks P j) j]).getD j [] = _
        rw [List.getD_eq_getElem?_getD, List.getElem?_append_right (by omega), l1, Nat.sub_self]
        rfl
      show (∀ q ∈ (vsTab st dc P (j + 1)).getD j [], _) ∧ ((vsTab st dc P (j + 1)).getD j []).length ≤ 2
      rw [e]
      refine ⟨fun q hq => ?_, pickW_len _⟩
      have hq := pickW_sub q hq
      by_cases hd : dc j = true
      · rw [if_pos hd] at hq
        rw [List.mem_singleton.mp hq]
        exact ⟨(show j < n by omega), rfl⟩
      · rw [if_neg hd] at hq
        obtain ⟨l, hl, hq⟩ := List.mem_flatMap.mp hq
        obtain ⟨hl, h2⟩ := List.mem_filter.mp hl
        obtain ⟨q', hq', rfl⟩ := List.mem_map.mp hq
        have hlt := lks_lt ho hl
        obtain ⟨hv, hh⟩ := (ih l.1 hlt).1 q' hq'
        refine ⟨?_, rfl⟩
        cases q' with
        | nil => exact hv.elim
        | cons c r =>
          have hc : c = l.1 := hh
          refine ⟨by omega, ?_, hv⟩
          rw [hc, ← lk_tri l (by simpa using h2)]; exact hl
/-- ways by title -/
def dV (ws : List Wd) (T : List (List (List Nat))) : D := .dct (keysOf ws T.length) (T.map fun F => .lst (wayD ws F))
section
variable {ws lb nm : List Wd} {P : List Pn}
theorem dV_look (nd : ws.Nodup) {T : List (List (List Nat))} (h : T.length ≤ ws.length) {i : Nat} (hi : i < T.length) : oIx (dV ws T) (.str (S (ws.getD i []))) = some (.lst (wayD ws (T.getD i []))) := by
  unfold dV
  rw [p_ixd, look_gen (keysOf_nd nd h) (by rw [keysOf_len, List.length_map]) (keysOf_get hi), List.getElem?_map, List.getD_eq_getElem?_getD, List.getElem?_eq_getElem hi]
  rfl
theorem dV_new (nd : ws.Nodup) {T : List (List (List Nat))} (h : T.length < ws.length) (F : List (List Nat)) : D.dct (dPutK (S (ws.getD T.length [])) (keysOf ws T.length)) (dPutV (S (ws.getD T.length [])) (.lst (wayD ws F)) (keysOf ws T.length) (T.map fun F => .lst (wayD ws F))) = dV ws (T ++ [F]) := by
  have hn : S (ws.getD T.length []) ∉ keysOf ws T.length := fun z => by
    obtain ⟨w, hw, e⟩ := List.mem_map.mp z
    obtain ⟨i, hi, rfl⟩ := List.mem_map.mp hw
    have hi := List.mem_range.mp hi
    have := winj nd (by omega) h (S_inj e)
    omega
  unfold dPutK dPutV dV
  rw [if_neg hn, if_neg hn, List.length_append, List.length_singleton, keysOf_succ, List.map_append]
  rfl
end
end Tw

set_option maxHeartbeats 2000000
namespace Tw
open PySem
section
variable {ws lb nm : List Wd} {P : List Pn} {n k : Nat} {x : Wd}
end
end Tw

set_option maxHeartbeats 2000000
namespace Tw
open PySem
/-- j is the class t or above it -/
noncomputable def leB (P : List Pn) (t j : Nat) : Bool := decide (j = t) || decide (Ab P t j)
/-- what the declarations of a name hide -/
noncomputable def hidL (P : List Pn) (dc : Nat → Bool) (t : Nat) (js : List Nat) : List Nat := (js.filter fun j => leB P t j && dc j).flatMap (shI P)
noncomputable def orL (P : List Pn) (dc : Nat → Bool) (t n : Nat) : List Nat := (shI P t).filter fun r => !decide (r ∈ hidL P dc t (List.range n))
section
variable {ws lb nm : List Wd} {P : List Pn} {n t : Nat} {x : Wd}
theorem shI_len (P : List Pn) (j : Nat) : (shI P j).length ≤ j := by
  unfold shI
  have := List.length_filter_le (fun x => decide (Sh P j x)) (List.range j)
  rwa [List.length_range] at this
end
end Tw

set_option maxHeartbeats 2000000
namespace Tw
open PySem
/-- all that is looked at: the own part, then the open shared bases -/
noncomputable def seen (st dc : Nat → Bool) (P : List Pn) (t : Nat) : List (List Nat) := (vsTab st dc P P.length).getD t [] ++ (orL P dc t P.length).flatMap fun r => (vsTab st dc P P.length).getD r []
section
variable {ws lb nm : List Wd} {P : List Pn} {n t : Nat} {x : Wd}
end
end Tw

set_option maxHeartbeats 2000000
namespace Tw
/-- all the visible ways of the own part -/
def vfL (dc : Nat → Bool) (T : List (List (List Nat))) (ls : List Lnk) (k : Nat) : List (List Nat) :=
  if dc k then [[k]] else (ls.filter fun l => !l.2).flatMap fun l => (T.getD l.1 []).map (k :: ·)
def vfTab (dc : Nat → Bool) (P : List Pn) : Nat → List (List (List Nat))
  | 0 => []
  | k + 1 => vfTab dc P k ++ [vfL dc (vfTab dc P k) (lks P k) k]
theorem vfTab_len {dc : Nat → Bool} {P : List Pn} : ∀ k, (vfTab dc P k).length = k
  | 0 => rfl
  | k + 1 => by unfold vfTab; rw [List.length_append, vfTab_len k]; rfl
/-- A tells what F tells -/
structure Thin (st : Nat → Bool) (A F : List (List Nat)) : Prop where
  sub : ∀ q ∈ A, q ∈ F
  ne : A = [] → F = []
  one : A.length ≤ 1 → ∀ q ∈ F, ∀ r ∈ F, q ≠ r → lst q = lst r ∧ st (lst q) = true
  two : 2 ≤ A.length → ∃ a b, A = [a, b] ∧ a ∈ F ∧ b ∈ F ∧ clash st a b = true ∧ a ≠ b
theorem lst_cons2 {a : Nat} {q : List Nat} (h : q ≠ []) : lst (a :: q) = lst q := by
  cases q with
  | nil => exact absurd rfl h
  | cons c r => unfold lst; rw [List.getLast?_cons_cons]
theorem clash_f {st : Nat → Bool} {a b : List Nat} (h : clash st a b = false) : lst b = lst a ∧ st (lst b) = true := by
  unfold clash at h
  obtain ⟨h1, h2⟩ := Bool.or_eq_false_iff.mp h
  exact ⟨by simpa using h1, by simpa using h2⟩
theorem clash_t {st : Nat → Bool} {a b : List Nat} (h : clash st a b = true) : ¬ (lst b = lst a ∧ st (lst b) = true) := by
  rintro ⟨h1, h2⟩
  unfold clash at h
  rw [h2, decide_eq_true h1] at h
  cases h
/-- picked of thinned parts tells what all the parts tell -/
theorem thin_parts {α : Type} {st : Nat → Bool} {A F : α → List (List Nat)} {ls : List α} (h : ∀ l ∈ ls, Thin st (A l) (F l)) (nd : (ls.flatMap A).Nodup) : Thin st (pickW st (ls.flatMap A)) (ls.flatMap F) := by
  have sub : ∀ q ∈ ls.flatMap A, q ∈ ls.flatMap F := fun q hq => by
    obtain ⟨l, hl, hq⟩ := List.mem_flatMap.mp hq
    exact List.mem_flatMap.mpr ⟨l, hl, (h l hl).sub q hq⟩
  have ne : ls.flatMap A = [] → ls.flatMap F = [] := fun e => by
    rw [List.flatMap_eq_nil_iff] at e ⊢
    exact fun l hl => (h l hl).ne (e l hl)
  cases hG : ls.flatMap A with
  | nil =>
    have := ne hG
    refine ⟨fun q hq => (by cases hq), fun _ => this, fun _ q hq => (by rw [this] at hq; cases hq), fun z => ?_⟩
    exact absurd (show 2 ≤ 0 from z) (by decide)
  | cons a G =>
    rw [hG] at sub nd
    obtain ⟨na, nG⟩ := List.nodup_cons.mp nd
    have e : pickW st (a :: G) = (match G.find? (clash st a) with | some b => [a, b] | none => [a]) := rfl
    cases hf : G.find? (clash st a) with
    | some b =>
      have hb := List.mem_of_find?_eq_some hf
      have hc := List.find?_some hf
      rw [e, hf]
      refine ⟨fun q hq => ?_, fun z => (by cases z), fun z => absurd (show 2 ≤ 1 from z) (by decide), fun _ => ⟨a, b, rfl, sub a List.mem_cons_self, sub b (List.mem_cons_of_mem _ hb), hc, fun z => na (z ▸ hb)⟩⟩
      rcases List.mem_cons.mp hq with rfl | hq
      · exact sub _ List.mem_cons_self
      · rw [List.mem_singleton.mp hq]; exact sub b (List.mem_cons_of_mem _ hb)
    | none =>
      rw [e, hf]
      have hn : ∀ y ∈ G, lst y = lst a ∧ st (lst y) = true := fun y hy => clash_f (by
        have := List.find?_eq_none.mp hf y hy
        simpa using this)
      have inA : ∀ l ∈ ls, ∀ y ∈ A l, y = a ∨ y ∈ G := fun l hl y hy => by
        have : y ∈ a :: G := by rw [← hG]; exact List.mem_flatMap.mpr ⟨l, hl, hy⟩
        exact List.mem_cons.mp this
      have one : ∀ l ∈ ls, (A l).length ≤ 1 := fun l hl => by
        rcases Nat.lt_or_ge (A l).length 2 with h1 | h1
        · omega
        · obtain ⟨u, v, eA, _, _, hc, huv⟩ := (h l hl).two h1
          have hu := inA l hl u (by rw [eA]; exact List.mem_cons_self)
          have hv := inA l hl v (by rw [eA]; exact List.mem_cons_of_mem _ List.mem_cons_self)
          refine absurd ?_ (clash_t hc)
          rcases hu with rfl | hu
          · rcases hv with rfl | hv
            · exact absurd rfl huv
            · exact hn v hv
          · have := hn u hu
            rcases hv with rfl | hv
            · exact ⟨this.1.symm, by rw [← this.1]; exact this.2⟩
            · have h3 := hn v hv
              exact ⟨by rw [h3.1, this.1], h3.2⟩
      have key : ∀ q ∈ ls.flatMap F, lst q = lst a ∧ (q = a ∨ st (lst a) = true) := fun q hq => by
        obtain ⟨l, hl, hq⟩ := List.mem_flatMap.mp hq
        have hA : ∃ u, u ∈ A l := by
          cases eA : A l with
          | nil =>
            have := (h l hl).ne eA
            rw [this] at hq; cases hq
          | cons u r => exact ⟨u, List.mem_cons_self⟩
        obtain ⟨u, hu⟩ := hA
        have hu1 : lst u = lst a ∧ (u = a ∨ st (lst a) = true) := by
          rcases inA l hl u hu with rfl | hu
          · exact ⟨rfl, .inl rfl⟩
          · have := hn u hu
            exact ⟨this.1, .inr (by rw [← this.1]; exact this.2)⟩
        by_cases hqu : q = u
        · subst hqu; exact hu1
        · have := (h l hl).one (one l hl) q hq u ((h l hl).sub u hu) hqu
          exact ⟨by rw [this.1, hu1.1], .inr (by rw [← hu1.1, ← this.1]; exact this.2)⟩
      refine ⟨fun q hq => ?_, fun z => (by cases z), fun _ q hq r hr hqr => ?_, fun z => absurd (show 2 ≤ 1 from z) (by decide)⟩
      · rw [List.mem_singleton.mp hq]; exact sub a List.mem_cons_self
      · have k1 := key q hq
        have k2 := key r hr
        refine ⟨by rw [k1.1, k2.1], ?_⟩
        rw [k1.1]
        rcases k1.2 with e1 | e1
        · rcases k2.2 with e2 | e2
          · exact absurd (e1.trans e2.symm) hqr
          · exact e2
        · exact e1
theorem thin_map {st : Nat → Bool} {A F : List (List Nat)} (k : Nat) (h : Thin st A F) (hn : ∀ q ∈ F, q ≠ []) : Thin st (A.map (k :: ·)) (F.map (k :: ·)) := by
  refine ⟨fun q hq => ?_, fun e => ?_, fun hl q hq r hr hqr => ?_, fun hl => ?_⟩
  · obtain ⟨q', hq', rfl⟩ := List.mem_map.mp hq
    exact List.mem_map.mpr ⟨q', h.sub q' hq', rfl⟩
  · rw [h.ne (List.map_eq_nil_iff.mp e)]; rfl
  · obtain ⟨q', hq', rfl⟩ := List.mem_map.mp hq
    obtain ⟨r', hr', rfl⟩ := List.mem_map.mp hr
    rw [lst_cons2 (hn q' hq'), lst_cons2 (hn r' hr')]
    rw [List.length_map] at hl
    exact h.one hl q' hq' r' hr' fun z => hqr (by rw [z])
  · rw [List.length_map] at hl
    obtain ⟨a, b, rfl, ha, hb, hc, hab⟩ := h.two hl
    refine ⟨k :: a, k :: b, rfl, List.mem_map.mpr ⟨a, ha, rfl⟩, List.mem_map.mpr ⟨b, hb, rfl⟩, ?_, fun z => hab (List.cons.inj z).2⟩
    unfold clash at hc ⊢
    rw [lst_cons2 (hn a ha), lst_cons2 (hn b hb)]
    exact hc
end Tw

set_option maxHeartbeats 2000000
namespace Tw
theorem nodup_fm2 {α β : Type} (key : α → Nat) (kx : β → Nat) (g : α → List β) : ∀ ls : List α, (ls.map key).Nodup → (∀ l ∈ ls, (g l).Nodup) → (∀ l ∈ ls, ∀ x ∈ g l, kx x = key l) → (ls.flatMap g).Nodup
  | [], _, _, _ => List.nodup_nil
  | l :: ls, h1, h2, h3 => by
    rw [List.map_cons] at h1
    obtain ⟨a, b⟩ := List.nodup_cons.mp h1
    rw [List.flatMap_cons]
    refine List.nodup_append.mpr ⟨h2 l List.mem_cons_self, nodup_fm2 key kx g ls b (fun x hx => h2 x (List.mem_cons_of_mem _ hx)) (fun x hx => h3 x (List.mem_cons_of_mem _ hx)), fun x hx y hy e => ?_⟩
    subst e
    obtain ⟨m, hm, hy⟩ := List.mem_flatMap.mp hy
    have e1 := h3 l List.mem_cons_self x hx
    have e2 := h3 m (List.mem_cons_of_mem _ hm) x hy
    exact a (List.mem_map.mpr ⟨m, hm, by rw [← e2, e1]⟩)
theorem gDL {α : Type} {T : List (List α)} {x : List α} {j k : Nat} (hl : T.length = k) (h : j < k) : (T ++ [x]).getD j [] = T.getD j [] := by
  rw [List.getD_eq_getElem?_getD, List.getElem?_append_left (by omega), ← List.getD_eq_getElem?_getD]
theorem gDR {α : Type} {T : List (List α)} {x : List α} {k : Nat} (hl : T.length = k) : (T ++ [x]).getD k [] = x := by
  rw [List.getD_eq_getElem?_getD, List.getElem?_append_right (by omega), hl, Nat.sub_self]; rfl
theorem Thin.nd {st : Nat → Bool} {A F : List (List Nat)} (h : Thin st A F) : A.Nodup := by
  rcases Nat.lt_or_ge A.length 2 with h1 | h1
  · match A, h1 with
    | [], _ => exact List.nodup_nil
    | [a], _ => exact List.nodup_cons.mpr ⟨fun z => (by cases z), List.nodup_nil⟩
    | a :: b :: A, h1 => simp only [List.length_cons] at h1; omega
  · obtain ⟨a, b, rfl, _, _, _, hab⟩ := h.two h1
    exact List.nodup_cons.mpr ⟨fun z => hab (List.mem_singleton.mp z), List.nodup_cons.mpr ⟨fun z => (by cases z), List.nodup_nil⟩⟩
section
variable {P : List Pn} {m n : Nat} {st dc : Nat → Bool}
/-- which ways are in the full table -/
theorem vf_mem (ho : PlanOk m P) : ∀ k, k ≤ n → ∀ j, j < k → ∀ q, q ∈ (vfTab dc P k).getD j [] ↔ Vw P n q ∧ hdn q = j ∧ dc (lst q) = true ∧ ∀ a ∈ q.dropLast, dc a = false
  | 0, _, j, h => by omega
  | k + 1, hk, j, hj => by
    have ih := vf_mem ho k (by omega)
    have l1 := vfTab_len (dc := dc) (P := P) k
    show ∀ q, q ∈ (vfTab dc P k ++ [vfL dc (vfTab dc P k) (lks P k) k]).getD j [] ↔ _
    by_cases hjk : j < k
    · rw [gDL l1 hjk]; exact ih j hjk
    · have ej : j = k := by omega
      subst ej
      rw [gDR l1]
      intro q
      unfold vfL
      by_cases hd : dc j = true
      · rw [if_pos hd]
        constructor
        · intro h
          rw [List.mem_singleton.mp h]
          exact ⟨(show j < n by omega), rfl, hd, fun a ha => by cases ha⟩
        · rintro ⟨hv, hh, _, hp⟩
          match q, hv, hh, hp with
          | [a], hv, hh, hp =>
            have : a = j := hh
            rw [this]; exact List.mem_singleton.mpr rfl
          | a :: b :: r, hv, hh, hp =>
            have ha : a = j := hh
            have := hp a (by show a ∈ a :: (b :: r).dropLast; exact List.mem_cons_self)
            rw [ha, hd] at this; cases this
      · rw [if_neg hd]
        have hdf : dc j = false := by cases h : dc j <;> simp_all
        constructor
        · intro h
          obtain ⟨l, hl, h⟩ := List.mem_flatMap.mp h
          obtain ⟨hl, h2⟩ := List.mem_filter.mp hl
          obtain ⟨q', hq', rfl⟩ := List.mem_map.mp h
          obtain ⟨hv, hh, hdq, hp⟩ := (ih l.1 (lks_lt ho hl) q').mp hq'
          match q', hv, hh, hdq, hp with
          | c :: r, hv, hh, hdq, hp =>
            have hc : c = l.1 := hh
            refine ⟨⟨by omega, ?_, hv⟩, rfl, by rw [lst_cons2 (by simp)]; exact hdq, fun a ha => ?_⟩
            · rw [hc, ← lk_tri l (by simpa using h2)]; exact hl
            · have ha : a ∈ j :: (c :: r).dropLast := ha
              rcases List.mem_cons.mp ha with rfl | ha
              · exact hdf
              · exact hp a ha
        · rintro ⟨hv, hh, hdq, hp⟩
          match q, hv, hh, hdq, hp with
          | [a], hv, hh, hdq, hp =>
            have ha : a = j := hh
            have : dc a = true := hdq
            rw [ha, hdf] at this; cases this
          | a :: b :: r, hv, hh, hdq, hp =>
            have ha : a = j := hh
            subst ha
            refine List.mem_flatMap.mpr ⟨(b, false), List.mem_filter.mpr ⟨hv.2.1, rfl⟩, List.mem_map.mpr ⟨b :: r, (ih b (lks_lt ho hv.2.1) (b :: r)).mpr ⟨hv.2.2, rfl, ?_, fun x hx => hp x (by show x ∈ a :: (b :: r).dropLast; exact List.mem_cons_of_mem _ hx)⟩, rfl⟩⟩
            rw [lst_cons2 (by simp)] at hdq; exact hdq
theorem vs_thin (ho : PlanOk m P) : ∀ k, k ≤ P.length → ∀ j, j < k → Thin st ((vsTab st dc P k).getD j []) ((vfTab dc P k).getD j [])
  | 0, _, j, h => by omega
  | k + 1, hk, j, hj => by
    have ih := vs_thin ho k (by omega)
    have l1 := vfTab_len (dc := dc) (P := P) k
    have l2 := vsTab_len (st := st) (dc := dc) (P := P) k
    show Thin st ((vsTab st dc P k ++ [vsL st dc (vsTab st dc P k) (lks P k) k]).getD j []) ((vfTab dc P k ++ [vfL dc (vfTab dc P k) (lks P k) k]).getD j [])
    by_cases hjk : j < k
    · rw [gDL l1 hjk, gDL l2 hjk]; exact ih j hjk
    · have ej : j = k := by omega
      subst ej
      rw [gDR l1, gDR l2]
      unfold vsL vfL
      by_cases hd : dc j = true
      · rw [if_pos hd, if_pos hd]
        refine ⟨fun q hq => hq, fun z => (by cases z), fun _ q hq r hr hqr => ?_, fun z => absurd (show 2 ≤ 1 from z) (by decide)⟩
        rw [List.mem_singleton.mp hq, List.mem_singleton.mp hr] at hqr
        exact absurd rfl hqr
      · rw [if_neg hd, if_neg hd]
        have hlt : ∀ l ∈ (lks P j).filter (fun l => !l.2), l.1 < j := fun l hl => lks_lt ho (List.mem_filter.mp hl).1
        have vm := fun l (hl : l ∈ (lks P j).filter (fun l => !l.2)) => vf_mem (n := P.length) (dc := dc) ho j (by omega) l.1 (hlt l hl)
        have hp : P[j]? = some P[j] := List.getElem?_eq_getElem (by omega)
        have hnd : (((lks P j).filter (fun l => !l.2)).map Prod.fst).Nodup := by
          rw [lks_get hp]
          exact (List.filter_sublist.map Prod.fst).nodup (ho j _ hp).nd
        refine thin_parts (A := fun l : Lnk => ((vsTab st dc P j).getD l.1 []).map (j :: ·)) (F := fun l : Lnk => ((vfTab dc P j).getD l.1 []).map (j :: ·)) (fun l hl => thin_map j (ih l.1 (hlt l hl)) fun q hq => ((vm l hl q).mp hq).1.ne) ?_
        refine nodup_fm2 Prod.fst (fun x => hdn x.tail) _ _ hnd (fun l hl => nodup_map_of (fun x _ y _ e => (List.cons.inj e).2) (ih l.1 (hlt l hl)).nd) fun l hl x hx => ?_
        obtain ⟨q', hq', rfl⟩ := List.mem_map.mp hx
        exact ((vm l hl q').mp ((ih l.1 (hlt l hl)).sub q' hq')).2.1
end
end Tw

set_option maxHeartbeats 2000000
namespace Tw
section
variable {P : List Pn} {m t : Nat} {st dc : Nat → Bool}
end
end Tw

set_option maxHeartbeats 2000000
namespace Tw
open PySem
theorem shp_str {w : Wd} (h : isW w = true) (k : Nat) : shp k (.str (S w)) = true := by
  have := shp_wds (l := [w]) (fun x hx => by rw [List.mem_singleton.mp hx]; exact h)
  have h2 : strOkD (S w) = true := by
    have : (shp 59 (.str (S w)) && true) = true := this
    rw [Bool.and_true] at this
    exact this
  cases k <;> exact h2
theorem shp_tld {ws : List Wd} {q : List Nat} (hw : Wds ws) (h : ∀ k ∈ q, k < ws.length) (n : Nat) : shp (n + 1) (tld ws q) = true := by
  show (stL (wmap ws q)).all (shp n) = true
  induction q with
  | nil => rfl
  | cons a q ih =>
    show (shp n (.str (S (ws.getD a []))) && (stL (wmap ws q)).all (shp n)) = true
    rw [ih fun k hk => h k (List.mem_cons_of_mem _ hk), Bool.and_true]
    exact shp_str (hw.w _ (wmem (h a List.mem_cons_self))) n
theorem deq_tld {ws : List Wd} (nd : ws.Nodup) {a b : List Nat} (ha : ∀ k ∈ a, k < ws.length) (hb : ∀ k ∈ b, k < ws.length) : deq (tld ws a) (tld ws b) = decide (a = b) := by
  have : deq (tld ws a) (tld ws b) = deqL (stL (wmap ws a)) (stL (wmap ws b)) := by simp [tld, deq]
  rw [this, deqL_stL2]
  rw [decide_eq_decide]
  exact ⟨fun h => wmap_inj nd ha hb h, fun h => by rw [h]⟩
end Tw

set_option maxHeartbeats 2000000
namespace Tw
open PySem
def mk (P : List Pn) (mi j : Nat) : Int := (P.getD j ⟨[], []⟩).ms.getD mi 0
section
variable {P : List Pn} {m mi t : Nat} {ws lb nm : List Wd}
end
end Tw

namespace Tw
open PySem
section
variable {ρ ρ' : DEnv} {a b k : DE} {b0 s t : DS} {es : List String} {hs : List Hd} {e : Ex} {d v : D} {i n : Nat} {f : Str} {c : String} {o : Option Slot} {l : List D}
def tryS (es : List String) (hs : List Hd) (r : R Out) : R Out := match r with
  | .ok (.xx e ρ') => if e.cls ∈ es then tryH hs e ρ' else .no
  | r => r
theorem q_try : sTry es b0 hs ρ = tryS es hs (b0 ρ) := by
  unfold sTry tryS
  cases b0 ρ with
  | ok o => cases o <;> rfl
  | ex e => rfl
  | no => rfl
theorem ty_nx : tryS es hs (.ok (.nx ρ)) = .ok (.nx ρ) := rfl
theorem ty_rt : tryS es hs (.ok (.rt d ρ)) = .ok (.rt d ρ) := rfl
theorem ty_xx {cn : String} {ks : List Str} {vs : List D} (h : cn ∈ es) : tryS es hs (.ok (.xx ⟨cn, ks, vs⟩ ρ)) = tryH hs ⟨cn, ks, vs⟩ ρ := if_pos h
theorem th_n : tryH [] e ρ = .ok (.xx e ρ) := rfl
def clS (i : Nat) (s : Ex → DS) (e : Ex) (ρ : DEnv) (o : Option Slot) : R Out := match o with
  | none => outX i (s e ρ)
  | _ => .no
def thS (k : Bool) (i : Nat) (s : Ex → DS) (hs : List Hd) (e : Ex) (ρ : DEnv) : R Out := if k then clS i s e ρ (getO i ρ) else tryH hs e ρ
theorem th_c {s : Ex → DS} (hi : i < ρ.length) : tryH ((c, i, s) :: hs) e ρ = thS (exSub e.cls c) i s hs e ρ := by
  unfold tryH thS clS getO
  rw [List.getElem?_eq_getElem hi]
  generalize ρ[i]'hi = o
  cases exSub e.cls c with
  | false => rfl
  | true => cases o <;> rfl
theorem ths_t {s : Ex → DS} : thS true i s hs e ρ = clS i s e ρ (getO i ρ) := rfl
theorem ths_f {s : Ex → DS} : thS false i s hs e ρ = tryH hs e ρ := rfl
theorem cl_none {s : Ex → DS} : clS i s e ρ none = outX i (s e ρ) := rfl
theorem ox_rt : outX i (.ok (.rt d ρ)) = .ok (.rt d ρ) := rfl
theorem q_xf {cn : String} {ks : List Str} {vs : List D} : eXf ⟨cn, ks, vs⟩ f ρ = R.of (lookD ks vs f) := rfl
theorem q_xi {cn : String} {ks : List Str} {vs : List D} : eXi ⟨cn, ks, vs⟩ c ρ = .ok (.bl (exSub cn c)) := rfl
def putlS (i : Nat) (v : D) (k : DE) (ρ : DEnv) (o : Option Slot) : R Out := match o with
  | some (.own (.lst l)) => (k ρ).st ρ fun x => match x with
    | .int j => if 0 ≤ j ∧ j < l.length then .ok (.nx (ρ.set i (some (.own (.lst (l.set j.toNat v)))))) else .no
    | _ => .no
  | _ => .no
theorem q_putl : sPutL i k a ρ = (a ρ).st ρ fun v => putlS i v k ρ (getO i ρ) := by
  unfold sPutL putlS getO
  congr 1
  funext v
  cases h : ρ[i]? with
  | none => rfl
  | some o => cases o with
    | none => rfl
    | some o => cases o <;> first | rfl | (rename_i d; cases d <;> rfl)
def pljS (i : Nat) (v : D) (l : List D) (ρ : DEnv) (x : D) : R Out := match x with
  | .int j => if 0 ≤ j ∧ j < l.length then .ok (.nx (ρ.set i (some (.own (.lst (l.set j.toNat v)))))) else .no
  | _ => .no
theorem pl_l : putlS i v k ρ (some (.own (.lst l))) = (k ρ).st ρ fun x => pljS i v l ρ x := rfl
def joinS (b : DE) (ρ : DEnv) (x : D) : R D := match x with
  | .str z => (b ρ).bind fun y => R.of (oJoin z y)
  | _ => .no
theorem q_join : eJoin a b ρ = (a ρ).bind (joinS b ρ) := by
  unfold eJoin joinS
  cases a ρ with
  | ok x => cases x <;> rfl
  | ex e => rfl
  | no => rfl
theorem jn_s {z : Str} : joinS b ρ (.str z) = (b ρ).bind fun y => R.of (oJoin z y) := rfl
def ev2 := And.intro @q_try <| And.intro @ty_nx <| And.intro @ty_rt <| And.intro @th_n <| And.intro @ths_t <| And.intro @ths_f <| And.intro @cl_none <| And.intro @ox_rt <| And.intro @q_xf <| And.intro @q_xi <| And.intro @q_putl <| And.intro @pl_l <| And.intro @q_join @jn_s
end
end Tw

set_option maxHeartbeats 2000000
namespace Tw
open PySem
theorem all_bl {α : Type} (p : α → Bool) (l : List α) : oAll (.lst (l.map fun c => .bl (p c))) = some (.bl (l.all p)) := by
  have : blsD (l.map fun c => D.bl (p c)) = some (l.map p) := by
    induction l with
    | nil => rfl
    | cons a l ih => rw [List.map_cons]; unfold blsD; rw [ih]; rfl
  unfold oAll
  simp only [this, List.all_map]
  rfl
section
variable {s nd sd : D}
end
end Tw

set_option maxHeartbeats 2000000
namespace Tw
open PySem
def bkApp (A : List Nat) (x : Nat) : List Nat := if A.length < 2 ∨ (A.length < 3 ∧ x ∉ A) then A ++ [x] else A
/-- B tells of L: none, one, more than one, all the same -/
structure BkW (B L : List Nat) : Prop where
  ln : B.length ≤ L.length
  two : min 2 L.length ≤ B.length
  all : ∀ y, (∀ x ∈ B, x = y) → ∀ z ∈ L, z = y
  sub : ∀ x ∈ B, x ∈ L
structure BkT (B L : List Nat) : Prop extends BkW B L where
  thr : 3 ≤ B.length → ∃ a ∈ B, ∃ b ∈ B, a ≠ b
  few : B.length ≤ 3
theorem BkT.nil : BkT [] [] := ⟨⟨Nat.le_refl _, Nat.le_refl _, fun _ _ z h => (by cases h), fun _ h => (by cases h)⟩, fun h => (by simp at h), Nat.zero_le _⟩
theorem BkT.one (x : Nat) : BkT [x] [x] := ⟨⟨Nat.le_refl _, by simp, fun _ h => h, fun _ h => h⟩, fun h => (by simp at h), by simp⟩
theorem BkT.app {B L : List Nat} (h : BkT B L) (x : Nat) : BkT (bkApp B x) (L ++ [x]) := by
  unfold bkApp
  have h1 := h.ln
  have h2 := h.two
  by_cases c : B.length < 2 ∨ (B.length < 3 ∧ x ∉ B)
  · rw [if_pos c]
    refine ⟨⟨by simp; omega, by simp; omega, fun y hy z hz => ?_, fun z hz => ?_⟩, fun h3 => ?_, by simp; omega⟩
    · rcases List.mem_append.mp hz with hz | hz
      · exact h.all y (fun b hb => hy b (List.mem_append_left _ hb)) z hz
      · rw [List.mem_singleton.mp hz]; exact hy x (List.mem_append_right _ List.mem_cons_self)
    · rcases List.mem_append.mp hz with hz | hz
      · exact List.mem_append_left _ (h.sub z hz)
      · exact List.mem_append_right _ hz
    · rw [List.length_append, List.length_singleton] at h3
      rcases c with c | ⟨c, hx⟩
      · omega
      · obtain ⟨b, hb⟩ : ∃ b, b ∈ B := List.exists_mem_of_length_pos (by omega)
        exact ⟨b, List.mem_append_left _ hb, x, List.mem_append_right _ List.mem_cons_self, fun e => hx (e ▸ hb)⟩
  · rw [if_neg c]
    refine ⟨⟨by simp; omega, by simp; omega, fun y hy z hz => ?_, fun z hz => List.mem_append_left _ (h.sub z hz)⟩, h.thr, h.few⟩
    rcases List.mem_append.mp hz with hz | hz
    · exact h.all y hy z hz
    · rw [List.mem_singleton.mp hz]
      by_cases hx : x ∈ B
      · exact hy x hx
      · have : 3 ≤ B.length := by
          by_cases h3 : B.length < 3
          · exact absurd (.inr ⟨h3, hx⟩) c
          · omega
        obtain ⟨a, ha, b, hb, hab⟩ := h.thr this
        exact absurd ((hy a ha).trans (hy b hb).symm) hab
theorem BkW.app2 {B L B2 L2 : List Nat} (h : BkW B L) (k : BkW B2 L2) : BkW (B ++ B2) (L ++ L2) := by
  have h1 := h.ln
  have h2 := h.two
  have k1 := k.ln
  have k2 := k.two
  refine ⟨by simp; omega, by simp; omega, fun y hy z hz => ?_, fun z hz => ?_⟩
  · rcases List.mem_append.mp hz with hz | hz
    · exact h.all y (fun b hb => hy b (List.mem_append_left _ hb)) z hz
    · exact k.all y (fun b hb => hy b (List.mem_append_right _ hb)) z hz
  · rcases List.mem_append.mp hz with hz | hz
    · exact List.mem_append_left _ (h.sub z hz)
    · exact List.mem_append_right _ (k.sub z hz)
section
variable {P : List Pn} {m mi : Nat} {dc : Nat → Bool}
variable {a0 a1 a2 a3 a5 : Option Slot}
def ttD (T : List (List Nat)) : D := .lst (T.map fun l => .lst (niL l))
theorem tt_at {T : List (List Nat)} {k : Nat} (h : k < T.length) : (T.map fun l => D.lst (niL l))[k]? = some (.lst (niL (T.getD k []))) := by
  rw [List.getElem?_map, List.getD_eq_getElem?_getD, List.getElem?_eq_getElem h]; rfl
end
end Tw

set_option maxHeartbeats 2000000
namespace Tw
open PySem
theorem any_int (x : Int) (ls : List Int) : ((ls.map D.int).any fun y => deq y (.int x)) = decide (x ∈ ls) := by
  induction ls with
  | nil => rfl
  | cons a ls ih =>
    rw [List.map_cons, List.any_cons, ih]
    show (a == x || decide (x ∈ ls)) = _
    rw [show (a == x) = decide (a = x) from by by_cases h : a = x <;> simp [h], ← Bool.decide_or, decide_eq_decide, List.mem_cons]
    exact ⟨fun h => h.imp Eq.symm id, fun h => h.imp Eq.symm id⟩
theorem flat_int (ls : List Int) : (ls.map D.int).all flatD = true := by
  rw [List.all_map, List.all_eq_true]; exact fun _ _ => rfl
theorem in_lsti (x : Int) (ls : List Int) : oIn (.int x) (.lst (ls.map .int)) = some (.bl (decide (x ∈ ls))) := by
  unfold oIn inD
  simp only [show flatD (.int x) = true from rfl, flat_int, Bool.and_self, if_true, any_int]
  rfl
/-- a text of true signs, no long one -/
def Gd (w : Wd) : Prop := w.length ≤ 100 ∧ ∀ c ∈ w, c < 0x110000
theorem Gd.ok {w : Wd} (h : Gd w) : strOkD (S w) = true := by
  unfold strOkD S
  simp only [List.all_toArray, List.all_eq_true, decide_eq_true_eq]
  exact h.2
theorem Gd.shp {w : Wd} (h : Gd w) (k : Nat) : shp k (.str (S w)) = true := by cases k <;> exact h.ok
theorem gd_W {w : Wd} (h : isW w = true) : Gd w := by
  refine ⟨by have := isW_len h; omega, fun c hc => ?_⟩
  have := shp_str h 0
  have this : strOkD (S w) = true := this
  unfold strOkD S at this
  simp only [List.all_toArray, List.all_eq_true, decide_eq_true_eq] at this
  exact this c hc
theorem Gd.cons {c : Nat} {w : Wd} (hc : c < 0x110000) (hw : isW w = true) : Gd (c :: w) := by
  refine ⟨by have := isW_len hw; rw [List.length_cons]; omega, fun x hx => ?_⟩
  rcases List.mem_cons.mp hx with rfl | hx
  · exact hc
  · exact (gd_W hw).2 x hx
theorem Gd.snoc {c : Nat} {w : Wd} (hc : c < 0x110000) (hw : isW w = true) : Gd (w ++ [c]) := by
  refine ⟨by have := isW_len hw; rw [List.length_append, List.length_singleton]; omega, fun x hx => ?_⟩
  rcases List.mem_append.mp hx with hx | hx
  · exact (gd_W hw).2 x hx
  · rw [List.mem_singleton.mp hx]; exact hc
structure PtOk (z : Nat) (L : List Wd) : Prop where
  l : L.length = z
  w : ∀ w ∈ L, Gd w
theorem PtOk.set {z i : Nat} {L : List Wd} {w : Wd} (h : PtOk z L) (hw : Gd w) : PtOk z (L.set i w) :=
  ⟨by rw [List.length_set]; exact h.l, fun x hx => (List.mem_or_eq_of_mem_set hx).elim (h.w x) fun e => by rw [e]; exact hw⟩
end Tw

set_option maxHeartbeats 2000000
namespace Tw
open PySem
theorem eq_niL (l : List Nat) : oEq (.lst (niL l)) (.lst []) = some (.bl (decide (l = []))) := by
  have h1 : shp 60 (.lst (niL l)) = true := shp_ni 59 l
  have h2 : shp 60 (.lst []) = true := rfl
  unfold oEq eqD
  rw [if_neg (show ¬ scalD (.lst (niL l)) (.lst []) = true from Bool.false_ne_true), h1, h2]
  cases l with
  | nil => rfl
  | cons q V => rfl
section
variable {P : List Pn} {m mi t : Nat} {T : List (List Nat)}
theorem BkW.flat {α : Type} {f g : α → List Nat} : ∀ {rs : List α}, (∀ r ∈ rs, BkW (f r) (g r)) → BkW (rs.flatMap f) (rs.flatMap g)
  | [], _ => BkT.nil.toBkW
  | r :: rs, h => by
    rw [List.flatMap_cons, List.flatMap_cons]
    exact (h r List.mem_cons_self).app2 (BkW.flat fun x hx => h x (List.mem_cons_of_mem _ hx))
end
end Tw

set_option maxHeartbeats 2000000
namespace Tw
open PySem
theorem place_loop {ws : List Wd} (nd : ws.Nodup) {k : Nat} (hk : k < ws.length) : ∀ (N i : Nat), i + N = ws.length → i ≤ k →
    ∃ ρ', forL (gVar 2) [2] b_law_place_1 ((List.range' i N).map fun i : Nat => .int i) [some (.val (.lst (stL ws))), some (.val (.str (S (ws.getD k [])))), none] = .ok (.rt (.int k) ρ')
  | 0, i, h, h2 => by omega
  | N + 1, i, h, h2 => by
    have x := stL_at (ws := ws) (k := i) (by omega)
    rw [List.range'_succ, List.map_cons, f_c]
    by_cases e : i = k
    · subst e
      have c : oEq (.str (S (ws.getD i []))) (.str (S (ws.getD i []))) = some (.bl true) := by rw [p_eqs]; simp
      have st : b_law_place_1 [some (.val (.lst (stL ws))), some (.val (.str (S (ws.getD i [])))), some (.val (.int i))] = .ok (.rt (.int i) [some (.val (.lst (stL ws))), some (.val (.str (S (ws.getD i [])))), some (.val (.int i))]) := by
        unfold b_law_place_1
        simp -implicitDefEqProofs (disch := (first | assumption | omega | (simp only [ngs]; done) | decide)) only [ev, R.bind_ok, R.bind_ex, R.st_ok, R.st_ex, R.of_some, List.length_map, x, ↓c]
      refine ⟨[some (.val (.lst (stL ws))), some (.val (.str (S (ws.getD i [])))), some (.val (.int i))], ?_⟩
      simp -implicitDefEqProofs (disch := (first | assumption | omega | (simp only [ngs]; done) | decide)) only [ev, R.bind_ok, R.bind_ex, R.st_ok, R.st_ex, R.of_some, List.length_map, st]
    · have c : oEq (.str (S (ws.getD i []))) (.str (S (ws.getD k []))) = some (.bl false) := by
        rw [p_eqs, S_beq', decide_eq_false fun z => e (winj nd (by omega) hk z)]
      have st : b_law_place_1 [some (.val (.lst (stL ws))), some (.val (.str (S (ws.getD k [])))), some (.val (.int i))] = .ok (.nx [some (.val (.lst (stL ws))), some (.val (.str (S (ws.getD k [])))), some (.val (.int i))]) := by
        unfold b_law_place_1
        simp -implicitDefEqProofs (disch := (first | assumption | omega | (simp only [ngs]; done) | decide)) only [ev, R.bind_ok, R.bind_ex, R.st_ok, R.st_ex, R.of_some, List.length_map, x, ↓c]
      obtain ⟨ρ', ih⟩ := place_loop nd hk N (i + 1) (by omega) (by omega)
      refine ⟨ρ', ?_⟩
      simp -implicitDefEqProofs (disch := (first | assumption | omega | (simp only [ngs]; done) | decide)) only [ev, R.bind_ok, R.bind_ex, R.st_ok, R.st_ex, R.of_some, List.length_map, st, ih]
theorem place_ok {ws : List Wd} (hw : Wds ws) {k : Nat} (hk : k < ws.length) : d_law_place [.lst (stL ws), .str (S (ws.getD k []))] = .ok (.int k) := by
  obtain ⟨ρ', lp⟩ := place_loop hw.nd hk ws.length 0 (by omega) (by omega)
  rw [← List.range_eq_range'] at lp
  have h4 := hw.l
  have l9 : ws.length < 1000000000 := by omega
  rw [e_law_place]
  unfold b_law_place
  simp -implicitDefEqProofs (disch := (first | assumption | omega | (simp only [ngs]; done) | decide)) only [ev, R.bind_ok, R.bind_ex, R.st_ok, R.st_ex, R.of_some, List.length_map, stL_len, lp]
theorem lk_deq (a b : Lnk) : deq (lkD a) (lkD b) = decide (a = b) := by
  obtain ⟨a1, a2⟩ := a
  obtain ⟨b1, b2⟩ := b
  have : deq (lkD (a1, a2)) (lkD (b1, b2)) = (deq (.int (a1 : Int)) (.int (b1 : Int)) && (deq (.int (bI a2)) (.int (bI b2)) && true)) := by simp [lkD, deq, deqL]
  rw [this, deq_int, deq_int, Bool.and_true, ← Bool.decide_and, decide_eq_decide, Prod.mk.injEq]
  constructor
  · rintro ⟨h1, h2⟩
    refine ⟨by omega, ?_⟩
    cases a2 <;> cases b2 <;> first | rfl | (exfalso; revert h2; decide)
  · rintro ⟨h1, h2⟩
    rw [h1, h2]; exact ⟨rfl, rfl⟩
theorem notin_lk (b : Nat) (ls : List Lnk) : oNotIn (.lst [.int b, .int 0]) (.lst (ls.map lkD)) = some (.bl (!decide ((b, false) ∈ ls))) := by
  have e : D.lst [.int b, .int 0] = lkD (b, false) := rfl
  rw [e]
  have h1 : (ls.map lkD).all (shp 60) = true := by rw [List.all_map, List.all_eq_true]; exact fun _ _ => rfl
  have h2 : ((ls.map lkD).any fun y => deq y (lkD (b, false))) = decide ((b, false) ∈ ls) := by
    rw [List.any_map]
    clear h1
    induction ls with
    | nil => rfl
    | cons x ls ih =>
      rw [List.any_cons, ih]
      show (deq (lkD x) (lkD (b, false)) || _) = _
      rw [lk_deq, ← Bool.decide_or, decide_eq_decide, List.mem_cons]
      exact ⟨fun h => h.imp Eq.symm id, fun h => h.imp Eq.symm id⟩
  unfold oNotIn inD
  simp only [show flatD (lkD (b, false)) = false from rfl, Bool.false_and, Bool.false_eq_true, if_false, show shp 60 (lkD (b, false)) = true from rfl, h1, Bool.and_self, if_true, h2]
  rfl
theorem in_neg (l : List Nat) : oIn (.int (-1)) (.lst (niL l)) = some (.bl false) := by
  have := in_lsti (-1) (l.map fun k : Nat => (k : Int))
  have e : (l.map fun k : Nat => (k : Int)).map D.int = niL l := by rw [List.map_map]; rfl
  rw [e] at this
  rw [this, decide_eq_false]
  intro h
  obtain ⟨a, _, e⟩ := List.mem_map.mp h
  omega
theorem all_str (l : List Wd) : oAll (.lst ((stL l).map fun _ => .bl true)) = some (.bl true) := by
  have := all_bl (fun _ : D => true) (stL l)
  rw [this]
  congr 2
  rw [List.all_eq_true]
  exact fun _ _ => rfl
section
variable {P : List Pn} {m mi t : Nat} {T : List (List Nat)} {ws : List Wd}
theorem rw_loop {a1 a2 a3 a4 : Option Slot} {q : List Nat} (hv : Vw P P.length q) : ∀ (N k : Nat), k + N + 1 = q.length →
    forL (gVar 6) [6] b_law_read_way_1 ((List.range' k N).map fun i : Nat => .int i) [some (.val (plnD P)), a1, a2, a3, a4, some (.val (.lst (niL q))), none, none] = .ok (.nx [some (.val (plnD P)), a1, a2, a3, a4, some (.val (.lst (niL q))), none, none])
  | 0, k, h => by rw [show List.range' k 0 = [] from rfl, List.map_nil, f_n]
  | N + 1, k, h => by
    have ih := rw_loop (a1 := a1) (a2 := a2) (a3 := a3) (a4 := a4) hv N (k + 1) (by omega)
    have g1 : (niL q)[k]? = some (.int (q.getD k 0)) := by unfold niL; rw [List.getElem?_map, List.getD_eq_getElem?_getD, List.getElem?_eq_getElem (by omega)]; rfl
    have g2 : atD (niL q) ((k : Int) + 1) = some (.int (q.getD (k + 1) 0)) := at_eq (n := k + 1) (by unfold niL; rw [List.getElem?_map, List.getD_eq_getElem?_getD, List.getElem?_eq_getElem (by omega)]; rfl) (by omega)
    have lk : (q.getD (k + 1) 0, false) ∈ lks P (q.getD k 0) := by
      have e : q = q.take (k + 1) ++ q.getD (k + 1) 0 :: q.drop (k + 2) := by
        rw [List.getD_eq_getElem?_getD, List.getElem?_eq_getElem (by omega), Option.getD_some, List.getElem_cons_drop, List.take_append_drop]
      have hne : q.take (k + 1) ≠ [] := fun z => by have := congrArg List.length z; rw [List.length_take, List.length_nil] at this; omega
      have := vw_link (n := P.length) hne (e ▸ hv)
      have el : lst (q.take (k + 1)) = q.getD k 0 := by
        rw [List.take_succ, List.getElem?_eq_getElem (by omega), List.getD_eq_getElem?_getD, List.getElem?_eq_getElem (by omega)]
        exact lst_app _ _
      rwa [el] at this
    have hlt : q.getD k 0 < P.length := by
      by_cases h2 : q.getD k 0 < P.length
      · exact h2
      · unfold lks at lk
        rw [List.getElem?_eq_none (by omega)] at lk
        cases lk
    have hp : P[q.getD k 0]? = some P[q.getD k 0] := List.getElem?_eq_getElem hlt
    generalize P[q.getD k 0]'hlt = p at hp
    have x2 := mapG (f := pnD) hp
    have el : lks P (q.getD k 0) = p.ls := by unfold lks; rw [hp]
    have ni := notin_lk (q.getD (k + 1) 0) p.ls
    rw [← el, decide_eq_true lk] at ni
    rw [el] at ni
    have st : b_law_read_way_1 [some (.val (plnD P)), a1, a2, a3, a4, some (.val (.lst (niL q))), some (.val (.int k)), none] = .ok (.nx [some (.val (plnD P)), a1, a2, a3, a4, some (.val (.lst (niL q))), some (.val (.int k)), none]) := by
      unfold b_law_read_way_1 plnD
      simp -implicitDefEqProofs (disch := (first | assumption | omega | (simp only [ngs]; done) | decide)) only [ev, R.bind_ok, R.bind_ex, R.st_ok, R.st_ex, R.of_some, List.length_map, g1, g2, x2, pn_0, ↓ni]
    rw [List.range'_succ, List.map_cons, f_c]
    simp -implicitDefEqProofs (disch := (first | assumption | omega | (simp only [ngs]; done) | decide)) only [ev, R.bind_ok, R.bind_ex, R.st_ok, R.st_ex, R.of_some, List.length_map, st, ih]
theorem read_way_ok (hw : Wds ws) (ho : PlanOk m P) (hP : P.length ≤ ws.length) (hT : T.length = P.length) (hS : ShT P T) (ht : t < P.length) {q : List Nat} (hv : Vw P P.length q) (hh : hdn q = t ∨ Sh P t (hdn q)) :
    d_law_read_way [plnD P, ttD T, .lst (stL ws), .int t, tld ws q] = .ok (.lst (niL q)) := by
  have h4 := hw.l
  obtain ⟨w1, w2⟩ := hv.all (lb := List.replicate m []) (by rw [List.length_replicate]; exact ho)
  have wr : ∀ k ∈ q, k < ws.length := fun k hk => by have := w1 k hk; omega
  have ln : oLen (tld ws q) = some (.int ((q.length : Nat) : Int)) := by
    show oLen (.tup (stL (wmap ws q))) = _
    rw [p_lent, stL_len]; unfold wmap; rw [List.length_map]
  have it1 : oIsi "tuple" (tld ws q) = some (.bl true) := rfl
  have qpos : 0 < q.length := List.length_pos_iff.mpr hv.ne
  have d0 : decide (((q.length : Nat) : Int) = 0) = false := decide_eq_false (by omega)
  have itt : iterD (tld ws q) = some (stL (wmap ws q)) := rfl
  have wl : (wmap ws q).length ≤ 1000 := by unfold wmap; rw [List.length_map]; omega
  have cm1 : ∀ a0 a1 a2 a3 a4 a5 a6, compS (gVar 7) tYesD (e1 (oIsi "str") (eVar 7)) [7] [a0, a1, a2, a3, a4, a5, a6, none] (stL (wmap ws q)) = .ok (.lst ((stL (wmap ws q)).map fun _ => .bl true)) := by
    intro a0 a1 a2 a3 a4 a5 a6
    have : stL (wmap ws q) = (wmap ws q).map fun w => .str (S w) := rfl
    rw [this, comp_map (fun w : Wd => D.str (S w)) (fun _ => .bl true) (by omega) rfl (fun w _ => by
      unfold cStep
      simp -implicitDefEqProofs (disch := (first | assumption | omega | (simp only [ngs]; done) | decide)) only [ev, R.bind_ok, R.bind_ex, R.st_ok, R.st_ex, R.of_some, List.length_map, if_true]), List.map_map]
    rfl
  have al := all_str (wmap ws q)
  have cm2 : ∀ a0 a1 a3 a4 a6, compS (gVar 7) tYesD (eCall d_law_place (aCons (eVar 2) (aCons (eVar 7) aNil))) [7] [a0, a1, some (.val (.lst (stL ws))), a3, a4, none, a6, none] (stL (wmap ws q)) = .ok (.lst (niL q)) := by
    intro a0 a1 a3 a4 a6
    have : stL (wmap ws q) = q.map fun k => .str (S (ws.getD k [])) := by unfold stL wmap; rw [List.map_map]; rfl
    rw [this, comp_map (fun k : Nat => D.str (S (ws.getD k []))) (fun k : Nat => .int k) (by omega) rfl (fun k hk => by
      have pl := place_ok hw (wr k hk)
      unfold cStep
      simp -implicitDefEqProofs (disch := (first | assumption | omega | (simp only [ngs]; done) | decide)) only [ev, R.bind_ok, R.bind_ex, R.st_ok, R.st_ex, R.of_some, List.length_map, pl, if_true])]
    rfl
  have ng := in_neg q
  have h0 : atD (niL q) 0 = some (.int (hdn q)) := by
    cases q with
    | nil => exact absurd rfl hv.ne
    | cons a r => rfl
  have q1 := tt_at (T := T) (k := t) (by omega)
  have ni := notin_ni (hdn q) (T.getD t [])
  have lnq : oLen (.lst (niL q)) = some (.int ((q.length : Nat) : Int)) := by rw [p_lenl, niL_len]
  have lp := fun a1 a2 a3 a4 => rw_loop (P := P) (a1 := a1) (a2 := a2) (a3 := a3) (a4 := a4) hv (q.length - 1) 0 (by omega)
  have e1' : ((q.length : Nat) : Int) - 1 = ((q.length - 1 : Nat) : Int) := by omega
  have n9 : q.length - 1 < 1000000000 := by omega
  have rg := rg_n n9
  rw [List.range_eq_range'] at rg
  rw [e_law_read_way]
  unfold b_law_read_way ttD
  rcases hh with hh | hh
  · have dd : decide (((hdn q : Nat) : Int) = t) = true := decide_eq_true (by omega)
    simp -implicitDefEqProofs (disch := (first | assumption | omega | (simp only [ngs]; done) | decide)) only [ev, R.bind_ok, R.bind_ex, R.st_ok, R.st_ex, R.of_some, List.length_map, it1, ↓ln, d0, ↓itt, cm1, ↓al, cm2, ↓ng, h0, dd, ↓lnq, e1', rg, lp]
  · by_cases hd : hdn q = t
    · have dd : decide (((hdn q : Nat) : Int) = t) = true := decide_eq_true (by omega)
      simp -implicitDefEqProofs (disch := (first | assumption | omega | (simp only [ngs]; done) | decide)) only [ev, R.bind_ok, R.bind_ex, R.st_ok, R.st_ex, R.of_some, List.length_map, it1, ↓ln, d0, ↓itt, cm1, ↓al, cm2, ↓ng, h0, dd, ↓lnq, e1', rg, lp]
    · have dd : decide (((hdn q : Nat) : Int) = t) = false := decide_eq_false (by omega)
      rw [decide_eq_true ((hS.mem t (by omega) (hdn q)).mpr hh)] at ni
      simp -implicitDefEqProofs (disch := (first | assumption | omega | (simp only [ngs]; done) | decide)) only [ev, R.bind_ok, R.bind_ex, R.st_ok, R.st_ex, R.of_some, List.length_map, it1, ↓ln, d0, ↓itt, cm1, ↓al, cm2, ↓ng, h0, dd, q1, ni, ↓lnq, e1', rg, lp]
end
end Tw

set_option maxHeartbeats 2000000
namespace Tw
open PySem
theorem psum {f : Nat → Int} {l m : List Nat} (h : l.Perm m) : (l.map f).sum = (m.map f).sum := by
  induction h with
  | nil => rfl
  | cons a _ ih => simp only [List.map_cons, List.sum_cons, ih]
  | swap a b l => simp only [List.map_cons, List.sum_cons]; omega
  | trans _ _ h1 h2 => exact h1.trans h2
theorem sum_same {f : Nat → Int} : ∀ {l m : List Nat}, l.Nodup → m.Nodup → (∀ x, x ∈ l ↔ x ∈ m) → (l.map f).sum = (m.map f).sum
  | [], [], _, _, _ => rfl
  | [], b :: m, _, _, h => by have := (h b).mpr List.mem_cons_self; cases this
  | a :: l, m, n1, n2, h => by
    obtain ⟨h1, h2⟩ := List.nodup_cons.mp n1
    have ha := (h a).mp List.mem_cons_self
    have p := List.perm_cons_erase ha
    rw [psum p, List.map_cons, List.sum_cons, List.map_cons, List.sum_cons]
    have ih := sum_same (f := f) (l := l) (m := m.erase a) h2 (n2.erase a) fun x => by
      rw [n2.mem_erase_iff]
      constructor
      · intro hx
        exact ⟨fun e => h1 (e ▸ hx), (h x).mp (List.mem_cons_of_mem _ hx)⟩
      · rintro ⟨hne, hx⟩
        exact (List.mem_cons.mp ((h x).mpr hx)).resolve_left hne
    rw [ih]
theorem lc_loop1 {a0 a1 a3 : Option Slot} {T : List Int} : ∀ (ls : List Lnk) (a : Int), (∀ l ∈ ls, l.1 < T.length) →
    forL (gVar 5) [5] b_law_counts_1 (ls.map lkD) [a0, a1, some (.own (.lst (T.map D.int))), a3, some (.val (.int a)), none] = .ok (.nx [a0, a1, some (.own (.lst (T.map D.int))), a3, some (.val (.int (cnL T ls a))), none])
  | [], a, _ => by rw [List.map_nil, f_n]; rfl
  | l :: ls, a, h => by
    have hl := h l List.mem_cons_self
    have ih := fun a => lc_loop1 (a0 := a0) (a1 := a1) (a3 := a3) (T := T) ls a fun x hx => h x (List.mem_cons_of_mem _ hx)
    have hx := mapG (f := D.int) (getD_some hl)
    have st : b_law_counts_1 [a0, a1, some (.own (.lst (T.map D.int))), a3, some (.val (.int a)), some (.val (lkD l))] = .ok (.nx [a0, a1, some (.own (.lst (T.map D.int))), a3, some (.val (.int (if l.2 then a else a + T.getD l.1 0))), some (.val (lkD l))]) := by
      unfold b_law_counts_1
      cases h2 : l.2 with
      | true =>
        have c : decide (bI l.2 = 0) = false := by rw [h2]; decide
        simp -implicitDefEqProofs (disch := (first | assumption | omega | (simp only [ngs]; done) | decide)) only [ev, R.bind_ok, R.bind_ex, R.st_ok, R.st_ex, R.of_some, List.length_map, lk_0, lk_1, c]
        rfl
      | false =>
        have c : decide (bI l.2 = 0) = true := by rw [h2]; decide
        simp -implicitDefEqProofs (disch := (first | assumption | omega | (simp only [ngs]; done) | decide)) only [ev, R.bind_ok, R.bind_ex, R.st_ok, R.st_ex, R.of_some, List.length_map, lk_0, lk_1, c, hx]
        rfl
    rw [List.map_cons, f_c]
    simp -implicitDefEqProofs (disch := (first | assumption | omega | (simp only [ngs]; done) | decide)) only [ev, R.bind_ok, R.bind_ex, R.st_ok, R.st_ex, R.of_some, List.length_map, st, ih]
    rfl
theorem lc_loop2 {m : Nat} {P : List Pn} {b : Nat} (ho : PlanOk m P) (hl : P.length ≤ 100) : ∀ (N k : Nat), k + N ≤ P.length →
    forL (gVar 3) [3, 4, 5] b_law_counts_2 ((List.range' k N).map fun i : Nat => .int i) [some (.val (.lst (P.map pnD))), some (.val (.int b)), some (.own (.lst ((cnTab P b k).map D.int))), none, none, none] =
      .ok (.nx [some (.val (.lst (P.map pnD))), some (.val (.int b)), some (.own (.lst ((cnTab P b (k + N)).map D.int))), none, none, none])
  | 0, k, _ => by rw [List.range'_zero, List.map_nil, f_n]; rfl
  | N + 1, k, h => by
    have hk : k < P.length := by omega
    have hp : P[k]? = some P[k] := List.getElem?_eq_getElem hk
    generalize P[k]'hk = p at hp
    have tl := cnTab_len (P := P) (b := b) k
    have lp := fun a0 a1 a3 a => lc_loop1 (a0 := a0) (a1 := a1) (a3 := a3) (T := cnTab P b k) p.ls a fun l hl => by have := (ho k p hp).lt l hl; omega
    have x1 := mapG (f := pnD) hp
    have ll : ((cnTab P b k).map D.int).length < 1000000 := by rw [List.length_map]; omega
    have ll2 : (cnTab P b k).length < 1000000 := by omega
    have st : b_law_counts_2 [some (.val (.lst (P.map pnD))), some (.val (.int b)), some (.own (.lst ((cnTab P b k).map D.int))), some (.val (.int k)), none, none] =
        .ok (.nx [some (.val (.lst (P.map pnD))), some (.val (.int b)), some (.own (.lst ((cnTab P b (k + 1)).map D.int))), some (.val (.int k)), some (.val (.int (cnL (cnTab P b k) (lks P k) (if k = b then 1 else 0)))), none]) := by
      have e : cnTab P b (k + 1) = cnTab P b k ++ [cnL (cnTab P b k) (lks P k) (if k = b then 1 else 0)] := rfl
      rw [e, lks_get hp]
      have bi : ∀ b : Bool, oInt (.bl b) = some (.int (bI b)) := fun b => rfl
      have be : bI (decide ((k : Int) = b)) = if k = b then 1 else 0 := by
        by_cases h : k = b
        · rw [if_pos h, decide_eq_true (by omega)]; rfl
        · rw [if_neg h, decide_eq_false (by omega)]; rfl
      unfold b_law_counts_2
      simp -implicitDefEqProofs (disch := (first | assumption | omega | (simp only [ngs]; done) | decide)) only [ev, R.bind_ok, R.bind_ex, R.st_ok, R.st_ex, R.of_some, List.length_map, ↓bi, be, x1, pn_0, lp]
      rw [List.map_append]
      rfl
    have ih := lc_loop2 (b := b) ho hl N (k + 1) (by omega)
    rw [List.range'_succ, List.map_cons, f_c]
    simp -implicitDefEqProofs (disch := (first | assumption | omega | (simp only [ngs]; done) | decide)) only [ev, R.bind_ok, R.bind_ex, R.st_ok, R.st_ex, R.of_some, List.length_map, st, ih]
    rw [show k + 1 + N = k + (N + 1) by omega]
theorem law_counts_ok {m : Nat} {P : List Pn} {b : Nat} (ho : PlanOk m P) (hl : P.length ≤ 100) : d_law_counts [plnD P, .int b] = .ok (.lst ((cnTab P b P.length).map D.int)) := by
  have lp := lc_loop2 (b := b) ho hl P.length 0 (by omega)
  rw [← List.range_eq_range', Nat.zero_add, show (cnTab P b 0).map D.int = [] from rfl] at lp
  have l9 : P.length < 1000000000 := by omega
  rw [e_law_counts]
  unfold b_law_counts plnD
  simp -implicitDefEqProofs (disch := (first | assumption | omega | (simp only [ngs]; done) | decide)) only [ev, R.bind_ok, R.bind_ex, R.st_ok, R.st_ex, R.of_some, List.length_map, lp]
section
variable {P : List Pn} {m mi t s : Nat} {T : List (List Nat)} {ws lb : List Wd}
theorem cc_law (ho : PlanOk m P) (hT : T.length = P.length) (hS : ShT P T) (ht : t < P.length) {b : Nat} : (cnTab P b P.length).getD t 0 + ((T.getD t []).map fun k => (cnTab P b P.length).getD k 0).sum = cc P t b := by
  unfold cc
  congr 1
  refine sum_same ((hS.few t (by omega)).nd) ((List.nodup_range).filter _) fun x => ?_
  rw [hS.mem t (by omega), mem_shI ho]
theorem DLs.app {ds es : List D} {rs qs : List Dr} (h : DLs ds rs) (k : DLs es qs) : DLs (ds ++ es) (rs ++ qs) := by
  induction h with
  | nil => exact k
  | cons a b _ ih => exact .cons a b ih
end
end Tw

set_option maxHeartbeats 2000000
namespace Tw
open PySem
theorem words_ok {s : Int} (s0 : 0 ≤ s) {n : Nat} (hn : n ≤ 62) : ∃ ws : List Wd, Wds ws ∧ ws.length = n ∧ ∀ k, k < n → d_law_word [.int s, .int k] = .ok (.str (S (ws.getD k []))) := by
  obtain ⟨f, b, z, t, hf, hb, hwd⟩ := law_word_ok s s0
  obtain ⟨hw, hwl⟩ := lws_ok (z := z) (t := t) hf hb hn
  refine ⟨lws f b z t n, hw, hwl, fun k hk => ?_⟩
  rw [hwd k (by omega)]
  have : (lws f b z t n).getD k [] = wordL f b z t k := by
    unfold lws
    rw [List.getD_eq_getElem?_getD, List.getElem?_map, List.getElem?_range hk]; rfl
  rw [this]
theorem word_comp {s : Int} {n : Nat} {ws : List Wd} (hwl : ws.length = n) (hn : n ≤ 1000) (h : ∀ k, k < n → d_law_word [.int s, .int k] = .ok (.str (S (ws.getD k [])))) {e : DE} {j : Nat} {ρ : DEnv}
    (ho : okW [j] ρ = true) (hs : ∀ x, ∃ ρ2, gVar j x (wipD [j] ρ) = .ok ρ2 ∧ e ρ2 = .ok (.int s) ∧ eVar j ρ2 = .ok x) :
    compS (gVar j) tYesD (eCall d_law_word (aCons e (aCons (eVar j) aNil))) [j] ρ ((List.range n).map fun i : Nat => .int i) = .ok (.lst (stL ws)) := by
  have e1 : stL ws = (List.range n).map fun k => .str (S (ws.getD k [])) := by
    refine List.ext_getElem? fun i => ?_
    by_cases hi : i < n
    · rw [stL_at (by omega), List.getElem?_map, List.getElem?_range hi]; rfl
    · rw [List.getElem?_eq_none (by rw [stL_len]; omega), List.getElem?_eq_none (by simp; omega)]
  rw [e1, comp_map (fun i : Nat => .int i) (fun k => .str (S (ws.getD k []))) (by rw [List.length_range]; omega) ho (fun k hk => by
    obtain ⟨ρ2, h1, h2, h3⟩ := hs (.int k)
    have := h k (List.mem_range.mp hk)
    unfold cStep
    rw [h1]
    simp -implicitDefEqProofs (disch := (first | assumption | omega | (simp only [ngs]; done) | decide)) only [ev, R.bind_ok, R.bind_ex, R.st_ok, R.st_ex, R.of_some, List.length_map, h2, h3, this, if_true])]
section
variable {ws lb nm : List Wd} {P : List Pn} {n k : Nat}
end
end Tw

set_option maxHeartbeats 2000000
namespace Tw
open PySem
def st0 : Nat → Bool := fun _ => false
def dcB (b : Nat) : Nat → Bool := fun k => decide (k = b)
theorem pick_st0 (F : List (List Nat)) : pickW st0 F = F.take 2 := by
  rcases F with _ | ⟨a, _ | ⟨b, F⟩⟩
  · rfl
  · rfl
  · have h : clash st0 a b = true := by unfold clash st0; rw [Bool.not_false, Bool.or_true]
    show (match (b :: F).find? (clash st0 a) with | some b => [a, b] | none => [a]) = _
    rw [List.find?_cons, h]
    rfl
section
variable {ws lb nm : List Wd} {P : List Pn} {n k b : Nat}
abbrev fwT (P : List Pn) (b : Nat) (k : Nat) : List (List (List Nat)) := vsTab st0 (dcB b) P k
theorem fw_step (hw : Wds ws) (ho : PlanOk lb.length P) (hP : P.length ≤ ws.length) (hk : k < P.length) (hb : b < P.length) :
    ∃ (x4 : D) (x5 : Option Slot), (x5 = none ∨ ∃ d, x5 = some (.val d)) ∧
    b_few_ways_1 [some (.val (liD (clsOf ws lb P P.length) nm)), some (.val (.str (S (ws.getD b [])))), some (.own (dV ws (fwT P b k))), some (.val (kiD (clOf ws lb P k))), none, none, none, none] =
      .ok (.nx [some (.val (liD (clsOf ws lb P P.length) nm)), some (.val (.str (S (ws.getD b [])))), some (.own (dV ws (fwT P b (k + 1)))), some (.val (kiD (clOf ws lb P k))), some (.val x4), x5, none, none]) := by
  have hl : (fwT P b k).length = k := vsTab_len (st := st0) (dc := dcB b) (P := P) k
  have hvw : ∀ j, j < k → (∀ q ∈ (fwT P b k).getD j [], Vw P P.length q ∧ hdn q = j) ∧ ((fwT P b k).getD j []).length ≤ 2 := vsTab_vw (st := st0) (dc := dcB b) (n := P.length) ho k (by omega)
  have h4 := hw.l
  have hp : P[k]? = some P[k] := List.getElem?_eq_getElem hk
  generalize P[k]'hk = p at hp
  have plt := (ho k p hp).lt
  have pln := (ho k p hp).len
  have hd : P.getD k ⟨[], []⟩ = p := by rw [List.getD_eq_getElem?_getD, hp]; rfl
  have ct : (clOf ws lb P k).r.t = ws.getD k [] := rfl
  have bm : (clOf ws lb P k).r.bs.map bD = p.ls.map fun l => bD (ws.getD l.1 [], l.2) := by
    have : (clOf ws lb P k).r.bs = p.ls.map fun l => (ws.getD l.1 [], l.2) := by
      show (prDr ws lb k (P.getD k ⟨[], []⟩)).bs = _
      rw [hd]; rfl
    rw [this, List.map_map]; rfl
  have et : fwT P b (k + 1) = fwT P b k ++ [vsL st0 (dcB b) (fwT P b k) (lks P k) k] := rfl
  rw [et, lks_get hp]
  generalize hT : fwT P b k = T at hl hvw ⊢
  have nw := fun F => dV_new (T := T) hw.nd (by omega) F
  rw [hl] at nw
  have put : ∀ (F : List (List Nat)) (x4 x5 x6 : Option Slot) (v : DE), v [some (.val (liD (clsOf ws lb P P.length) nm)), some (.val (.str (S (ws.getD b [])))), some (.own (dV ws T)), some (.val (kiD (clOf ws lb P k))), x4, x5, x6, none] = .ok (.lst (wayD ws F)) →
      sPutD 2 (e1 (oFld "title") (eVar 3)) v [some (.val (liD (clsOf ws lb P P.length) nm)), some (.val (.str (S (ws.getD b [])))), some (.own (dV ws T)), some (.val (kiD (clOf ws lb P k))), x4, x5, x6, none] =
      .ok (.nx [some (.val (liD (clsOf ws lb P P.length) nm)), some (.val (.str (S (ws.getD b [])))), some (.own (dV ws (T ++ [F]))), some (.val (kiD (clOf ws lb P k))), x4, x5, x6, none]) := by
    intro F x4 x5 x6 v hv
    rw [putd_s (ks := keysOf ws T.length) (vs := T.map fun F => .lst (wayD ws F)) (s := S (ws.getD k [])) (v := .lst (wayD ws F)) hv rfl (by simp -implicitDefEqProofs (disch := (first | assumption | omega | (simp only [ngs]; done) | decide)) only [ev, R.bind_ok, R.bind_ex, R.st_ok, R.st_ex, R.of_some, List.length_map, ki_t, ct]) (by rw [keysOf_len]; omega), hl, nw]
    rfl
  have e1' : D.lst [D.tup [D.str (S (ws.getD b []))]] = .lst (wayD ws [[b]]) := rfl
  have sl2 : ∀ F : List (List Nat), oSl none (some 2) (.lst (wayD ws F)) = some (.lst (wayD ws (F.take 2))) := fun F => by
    rw [sl_to (by decide)]; unfold wayD; rw [List.map_take]; rfl
  unfold b_few_ways_1
  by_cases hkb : k = b
  · subst hkb
    have n0 : oNe (.str (S (ws.getD k []))) (.str (S (ws.getD k []))) = some (.bl false) := by rw [p_nes]; simp
    have evs : vsL st0 (dcB k) T p.ls k = [[k]].take 2 := by unfold vsL; rw [if_pos (by unfold dcB; exact decide_eq_true rfl), pick_st0]
    rw [evs]
    have pp := put ([[k]].take 2) (some (.val (.lst (wayD ws [[k]])))) none none (eSl (eVar 4) (xNone) (xSome (eC (.int 2)))) (by simp -implicitDefEqProofs (disch := (first | assumption | omega | (simp only [ngs]; done) | decide)) only [ev, R.bind_ok, R.bind_ex, R.st_ok, R.st_ex, R.of_some, List.length_map, sl2])
    refine ⟨.lst (wayD ws [[k]]), none, .inl rfl, ?_⟩
    simp -implicitDefEqProofs (disch := (first | assumption | omega | (simp only [ngs]; done) | decide)) only [ev, R.bind_ok, R.bind_ex, R.st_ok, R.st_ex, R.of_some, List.length_map, ki_t, ct, e1', ↓n0, pp]
  · have n0 : oNe (.str (S (ws.getD k []))) (.str (S (ws.getD b []))) = some (.bl true) := by
      rw [p_nes]
      have : (S (ws.getD k []) == S (ws.getD b [])) = false := beq_eq_false_iff_ne.mpr fun z => hkb (winj hw.nd (by omega) (by omega) (S_inj z))
      rw [this]; rfl
    have hdc : dcB b k = false := decide_eq_false hkb
    generalize hls : p.ls.filter (fun l => !l.2) = ls
    have lsl : ls.length ≤ 100 := by
      rw [← hls]
      have := List.length_filter_le (fun l : Lnk => !l.2) p.ls
      omega
    have lsm : ∀ l ∈ ls, l ∈ p.ls ∧ l.2 = false := fun l h => by
      rw [← hls] at h
      exact ⟨(List.mem_filter.mp h).1, by simpa using (List.mem_filter.mp h).2⟩
    have c1 : ∀ x4, compS (gVar 6) (tNotD (tTru (e1 (oFld "is_shared") (eVar 6)))) (e1 (oFld "title") (eVar 6)) [6] [some (.val (liD (clsOf ws lb P P.length) nm)), some (.val (.str (S (ws.getD b [])))), some (.own (dV ws T)), some (.val (kiD (clOf ws lb P k))), x4, none, none, none] (p.ls.map fun l => bD (ws.getD l.1 [], l.2)) = .ok (.lst (ls.map fun l => .str (S (ws.getD l.1 [])))) := by
      intro x4
      rw [comp_filter (fun l : Lnk => bD (ws.getD l.1 [], l.2)) (fun l => .str (S (ws.getD l.1 []))) (fun l => !l.2) (by omega) rfl (fun l hl => by
        unfold cStep
        cases h2 : l.2 <;> simp -implicitDefEqProofs (disch := (first | assumption | omega | (simp only [ngs]; done) | decide)) only [ev, R.bind_ok, R.bind_ex, R.st_ok, R.st_ex, R.of_some, List.length_map, bD_sh, bD_title, truD_b, h2, if_true, Bool.false_eq_true, if_false]), hls]
    have it5 : iterD (.lst (ls.map fun l => D.str (S (ws.getD l.1 [])))) = some (ls.map fun l => D.str (S (ws.getD l.1 []))) := rfl
    have ew : wayD ws (ls.flatMap fun l => (T.getD l.1 []).map (k :: ·)) = ls.flatMap fun l => ((T.getD l.1 []).map fun q => tld ws (k :: q)) := by
      unfold wayD
      rw [List.map_flatMap]
      congr 1
      funext l
      rw [List.map_map]
      rfl
    have c2 : ∀ x4, eComp2 (iOf (eVar 5)) [6, 7] (gVar 6) (iOf (e2 oIx (eLook 2) (eVar 6))) [7] (gVar 7) (tYesD) (e2 oAdd (eTup (aCons (e1 (oFld "title") (eVar 3)) (aNil))) (eVar 7)) [some (.val (liD (clsOf ws lb P P.length) nm)), some (.val (.str (S (ws.getD b [])))), some (.own (dV ws T)), some (.val (kiD (clOf ws lb P k))), x4, some (.val (.lst (ls.map fun l => .str (S (ws.getD l.1 []))))), none, none] = .ok (.lst (wayD ws (ls.flatMap fun l => (T.getD l.1 []).map (k :: ·)))) := by
      intro x4
      refine comp2_ok (l := ls.map fun l => D.str (S (ws.getD l.1 []))) (by simp -implicitDefEqProofs (disch := (first | assumption | omega | (simp only [ngs]; done) | decide)) only [ev, R.bind_ok, R.bind_ex, R.st_ok, R.st_ex, R.of_some, List.length_map, it5]) rfl ?_ ?_
      · rw [ew]
        refine comp2_fm (fun l : Lnk => D.str (S (ws.getD l.1 []))) (fun l => (T.getD l.1 []).map fun q => tld ws (k :: q)) ls fun l hl => ?_
        have := plt l (lsm l hl).1
        have ix := dV_look (T := T) hw.nd (by omega) (i := l.1) (by omega)
        have iw : iterD (.lst (wayD ws (T.getD l.1 []))) = some (wayD ws (T.getD l.1 [])) := rfl
        refine ⟨[some (.val (liD (clsOf ws lb P P.length) nm)), some (.val (.str (S (ws.getD b [])))), some (.own (dV ws T)), some (.val (kiD (clOf ws lb P k))), x4, some (.val (.lst (ls.map fun l => .str (S (ws.getD l.1 []))))), some (.val (.str (S (ws.getD l.1 [])))), none], wayD ws (T.getD l.1 []), rfl, by simp -implicitDefEqProofs (disch := (first | assumption | omega | (simp only [ngs]; done) | decide)) only [ev, R.bind_ok, R.bind_ex, R.st_ok, R.st_ex, R.of_some, List.length_map, ix, iw], rfl, ?_⟩
        have cf := compL_fm (g := gVar 7) (p := tYesD) (e := e2 oAdd (eTup (aCons (e1 (oFld "title") (eVar 3)) (aNil))) (eVar 7)) (ρ := [some (.val (liD (clsOf ws lb P P.length) nm)), some (.val (.str (S (ws.getD b [])))), some (.own (dV ws T)), some (.val (kiD (clOf ws lb P k))), x4, some (.val (.lst (ls.map fun l => .str (S (ws.getD l.1 []))))), some (.val (.str (S (ws.getD l.1 [])))), none]) (tld ws) (fun q => some (tld ws (k :: q))) (T.getD l.1 []) (fun q hq => by
          have hv := ((hvw l.1 (by omega)).1 q hq).1
          have hql := (hv.all (lb := lb) ho).2
          have ad : oAdd (.tup [.str (S (ws.getD k []))]) (tld ws q) = some (tld ws (k :: q)) := p_addt (by rw [stL_len]; unfold wmap; rw [List.length_map]; show 1 + q.length ≤ 1000000; omega)
          unfold cStep
          simp -implicitDefEqProofs (disch := (first | assumption | omega | (simp only [ngs]; done) | decide)) only [ev, R.bind_ok, R.bind_ex, R.st_ok, R.st_ex, R.of_some, List.length_map, ki_t, ct, ad, if_true])
        have e3 : (T.getD l.1 []).filterMap (fun q => some (tld ws (k :: q))) = (T.getD l.1 []).map fun q => tld ws (k :: q) := congrFun List.filterMap_eq_map' _
        rw [e3] at cf
        exact cf
      · rw [ew]
        have hb : ∀ ls : List Lnk, (∀ l ∈ ls, l ∈ p.ls ∧ l.2 = false) → (ls.flatMap fun l => ((T.getD l.1 []).map fun q => tld ws (k :: q))).length ≤ 2 * ls.length := by
          intro ls
          induction ls with
          | nil => intro _; exact Nat.zero_le _
          | cons l ls ih =>
            intro h
            have := ih fun x hx => h x (List.mem_cons_of_mem _ hx)
            have h1 := (hvw l.1 (by have := plt l (h l List.mem_cons_self).1; omega)).2
            rw [List.flatMap_cons, List.length_append, List.length_map, List.length_cons]
            omega
        have := hb ls lsm
        omega
    have evs : vsL st0 (dcB b) T p.ls k = (ls.flatMap fun l => (T.getD l.1 []).map (k :: ·)).take 2 := by unfold vsL; rw [if_neg (by rw [hdc]; decide), hls, pick_st0]
    rw [evs]
    have pp := put ((ls.flatMap fun l => (T.getD l.1 []).map (k :: ·)).take 2) (some (.val (.lst (wayD ws (ls.flatMap fun l => (T.getD l.1 []).map (k :: ·)))))) (some (.val (.lst (ls.map fun l => .str (S (ws.getD l.1 [])))))) none (eSl (eVar 4) (xNone) (xSome (eC (.int 2)))) (by simp -implicitDefEqProofs (disch := (first | assumption | omega | (simp only [ngs]; done) | decide)) only [ev, R.bind_ok, R.bind_ex, R.st_ok, R.st_ex, R.of_some, List.length_map, sl2])
    have itb : iterD (.tup (p.ls.map fun l => bD (ws.getD l.1 [], l.2))) = some (p.ls.map fun l => bD (ws.getD l.1 [], l.2)) := rfl
    refine ⟨.lst (wayD ws (ls.flatMap fun l => (T.getD l.1 []).map (k :: ·))), some (.val (.lst (ls.map fun l => .str (S (ws.getD l.1 []))))), .inr ⟨_, rfl⟩, ?_⟩
    simp -implicitDefEqProofs (disch := (first | assumption | omega | (simp only [ngs]; done) | decide)) only [ev, R.bind_ok, R.bind_ex, R.st_ok, R.st_ex, R.of_some, List.length_map, ki_t, ct, e1', ↓n0, truD_b, ki_b, bm, c1, ↓c2, pp]
theorem fw_loop (hw : Wds ws) (ho : PlanOk lb.length P) (hP : P.length ≤ ws.length) (hb : b < P.length) : ∀ (N k : Nat), k + N ≤ P.length →
    forL (gVar 3) [3, 4, 5] b_few_ways_1 ((List.range' k N).map fun i => kiD (clOf ws lb P i)) [some (.val (liD (clsOf ws lb P P.length) nm)), some (.val (.str (S (ws.getD b [])))), some (.own (dV ws (fwT P b k))), none, none, none, none, none] =
      .ok (.nx [some (.val (liD (clsOf ws lb P P.length) nm)), some (.val (.str (S (ws.getD b [])))), some (.own (dV ws (fwT P b (k + N)))), none, none, none, none, none])
  | 0, k, _ => by rw [List.range'_zero, List.map_nil, f_n]; rfl
  | N + 1, k, h => by
    obtain ⟨x4, x5, hx, st⟩ := fw_step (nm := nm) (k := k) (b := b) hw ho hP (by omega) hb
    have ih := fw_loop hw ho hP hb N (k + 1) (by omega)
    rw [List.range'_succ, List.map_cons, f_c, show k + (N + 1) = k + 1 + N by omega]
    rcases hx with rfl | ⟨d, rfl⟩ <;> simp -implicitDefEqProofs (disch := (first | assumption | omega | (simp only [ngs]; done) | decide)) only [ev, R.bind_ok, R.bind_ex, R.st_ok, R.st_ex, R.of_some, List.length_map, st, ih]
theorem few_ways_ok (hw : Wds ws) (ho : PlanOk lb.length P) (hP : P.length ≤ ws.length) (hb : b < P.length) : d_few_ways [liD (clsOf ws lb P P.length) nm, .str (S (ws.getD b []))] = .ok (dV ws (fwT P b P.length)) := by
  have lp := fw_loop (nm := nm) hw ho hP hb P.length 0 (by omega)
  rw [← List.range_eq_range', Nat.zero_add] at lp
  have e0 : D.dct [] [] = dV ws (fwT P b 0) := rfl
  have li := li_list (L := clsOf ws lb P P.length) (nm := nm)
  have lm : (clsOf ws lb P P.length).map kiD = (List.range P.length).map fun i => kiD (clOf ws lb P i) := by unfold clsOf; rw [List.map_map]; rfl
  rw [lm] at li
  rw [e_few_ways]
  unfold b_few_ways
  simp -implicitDefEqProofs (disch := (first | assumption | omega | (simp only [ngs]; done) | decide)) only [ev, R.bind_ok, R.bind_ex, R.st_ok, R.st_ex, R.of_some, List.length_map, e0, li, lp]
end
end Tw

namespace Tw
open PySem
end Tw

set_option maxHeartbeats 2000000
namespace Tw
open PySem
theorem deqL_of : ∀ {l : List D}, (∀ d ∈ l, deq d d = true) → deqL l l = true
  | [], _ => rfl
  | d :: l, h => by
    have h1 := h d List.mem_cons_self
    have h2 := deqL_of fun x hx => h x (List.mem_cons_of_mem d hx)
    simp [deqL, h1, h2]
theorem deq_self : ∀ (k : Nat) (d : D), shp k d = true → deq d d = true := by
  intro k
  induction k with
  | zero => intro d h; cases d <;> first | (simp [deq]; done) | (simp [shp] at h)
  | succ k ih =>
    intro d h
    cases d with
    | lst l =>
      have h : l.all (shp k) = true := h
      have := deqL_of (l := l) fun x hx => ih x (List.all_eq_true.mp h x hx)
      simpa [deq] using this
    | tup l =>
      have h : l.all (shp k) = true := h
      have := deqL_of (l := l) fun x hx => ih x (List.all_eq_true.mp h x hx)
      simpa [deq] using this
    | _ => first | (simp [deq]; done) | (simp [shp] at h)
theorem eq_self {d : D} (h : shp 60 d = true) : oEq d d = some (.bl true) := by
  unfold oEq eqD
  rw [deq_self 60 d h, h]
  by_cases s : scalD d d = true
  · rw [if_pos s]; rfl
  · rw [if_neg s]; rfl
section
variable {P : List Pn} {m mi t : Nat} {ws lb nm : List Wd} {st dc : Nat → Bool} {x : Wd}
theorem stL_wmap (l : List Nat) : stL (wmap ws l) = l.map fun k => .str (S (ws.getD k [])) := by unfold stL wmap; rw [List.map_map]; rfl
theorem sh_of_li (hw : Wds ws) (hP : P.length ≤ ws.length) (ht : t < P.length) : oFld "shared_bases" (kiD (clOf ws lb P t)) = some (.tup ((shI P t).map fun k => .str (S (ws.getD k [])))) := by
  rw [ki_sh]
  show some (D.tup (stL (wmap ws (shI P t)))) = _
  rw [stL_wmap]
end
end Tw

set_option maxHeartbeats 2000000
namespace Tw
open PySem
section
variable {P : List Pn} {m mi t : Nat} {ws lb : List Wd} {T : List (List Nat)}
end
end Tw

set_option maxHeartbeats 2000000
namespace Tw
open PySem
section
variable {P Q : List Pn} {m mi t : Nat}
end
section
variable {P Q : List Pn} {mi t n : Nat} {ws lb nm : List Wd} {T : List (List Nat)}
end
end Tw

set_option maxHeartbeats 2000000
namespace Tw
open PySem
section
variable {P : List Pn} {m t : Nat} {dc st : Nat → Bool}
theorem Rch.trans {w q x : List Nat} (h : Rch P w q) (k : Rch P q x) : Rch P w x := by
  induction k with
  | refl => exact h
  | step _ hl ih => exact .step ih hl
theorem Sh.trans {j r x : Nat} (h : Sh P j r) (k : Sh P r x) : Sh P j x := by
  induction h with
  | base hl _ => exact .step hl k
  | step hl _ ih => exact .step hl (ih k)
theorem lst_cons {a : Nat} {q : List Nat} (h : q ≠ []) : lst (a :: q) = lst q := lst_cons2 h
end
end Tw

set_option maxHeartbeats 2000000
namespace Tw
open PySem
theorem nodup_fm {α β : Type} (key : α → Nat) (kx : β → Nat) (g : α → List β) : ∀ ls : List α, (ls.map key).Nodup → (∀ l ∈ ls, (g l).Nodup) → (∀ l ∈ ls, ∀ x ∈ g l, kx x = key l) → (ls.flatMap g).Nodup
  | [], _, _, _ => List.nodup_nil
  | l :: ls, h1, h2, h3 => by
    rw [List.map_cons] at h1
    obtain ⟨a, b⟩ := List.nodup_cons.mp h1
    rw [List.flatMap_cons]
    refine List.nodup_append.mpr ⟨h2 l List.mem_cons_self, nodup_fm key kx g ls b (fun x hx => h2 x (List.mem_cons_of_mem _ hx)) (fun x hx => h3 x (List.mem_cons_of_mem _ hx)), fun x hx y hy e => ?_⟩
    subst e
    obtain ⟨m, hm, hy⟩ := List.mem_flatMap.mp hy
    have e1 := h3 l List.mem_cons_self x hx
    have e2 := h3 m (List.mem_cons_of_mem _ hm) x hy
    exact a (List.mem_map.mpr ⟨m, hm, by rw [← e2, e1]⟩)
def chG (T : List (List (List Nat))) (k : Nat) (l : Lnk) : List (List Nat) := if l.2 then [] else (T.getD l.1 []).map (k :: ·)
def chL (T : List (List (List Nat))) (ls : List Lnk) (k b : Nat) : List (List Nat) := (if k = b then [[k]] else []) ++ ls.flatMap (chG T k)
def chTab (P : List Pn) (b : Nat) : Nat → List (List (List Nat))
  | 0 => []
  | k + 1 => chTab P b k ++ [chL (chTab P b k) (lks P k) k b]
theorem chTab_len {P : List Pn} {b : Nat} : ∀ k, (chTab P b k).length = k
  | 0 => rfl
  | k + 1 => by unfold chTab; rw [List.length_append, chTab_len k]; rfl
theorem getDL {α : Type} {T : List (List α)} {x : List α} {j : Nat} (h : j < T.length) : (T ++ [x]).getD j [] = T.getD j [] := by
  rw [List.getD_eq_getElem?_getD, List.getElem?_append_left h, ← List.getD_eq_getElem?_getD]
theorem getDR {α : Type} {T : List (List α)} {x : List α} : (T ++ [x]).getD T.length [] = x := by
  rw [List.getD_eq_getElem?_getD, List.getElem?_append_right (Nat.le_refl _), Nat.sub_self]; rfl
theorem getDI {T : List Int} {x : Int} {j : Nat} (h : j < T.length) : (T ++ [x]).getD j 0 = T.getD j 0 := by
  rw [List.getD_eq_getElem?_getD, List.getElem?_append_left h, ← List.getD_eq_getElem?_getD]
theorem getDJ {T : List Int} {x : Int} : (T ++ [x]).getD T.length 0 = x := by
  rw [List.getD_eq_getElem?_getD, List.getElem?_append_right (Nat.le_refl _), Nat.sub_self]; rfl
/-- what the list of the ways from j to b is -/
structure ChOk (P : List Pn) (n b j : Nat) (C : List (List Nat)) (N : Int) : Prop where
  len : (C.length : Int) = N
  nd : C.Nodup
  mem : ∀ q, q ∈ C ↔ Vw P n q ∧ hdn q = j ∧ lst q = b
theorem ch_len {T : List (List (List Nat))} {U : List Int} {k : Nat} : ∀ (ls : List Lnk) (a : Int), (∀ l ∈ ls, ((T.getD l.1 []).length : Int) = U.getD l.1 0) → a + ((ls.flatMap (chG T k)).length : Int) = cnL U ls a
  | [], a, _ => by simp [cnL]
  | l :: ls, a, h => by
    have ih := fun a => ch_len (k := k) ls a fun x hx => h x (List.mem_cons_of_mem _ hx)
    have hl := h l List.mem_cons_self
    show _ = cnL U ls (if l.2 then a else a + U.getD l.1 0)
    rw [← ih, List.flatMap_cons, List.length_append]
    unfold chG
    cases h2 : l.2 with
    | true => simp
    | false =>
      rw [if_neg Bool.false_ne_true, if_neg Bool.false_ne_true, List.length_map]
      omega
theorem ch_ok {P : List Pn} {m n b : Nat} (ho : PlanOk m P) (hP : P.length = n) : ∀ k, k ≤ n → ∀ j, j < k → ChOk P n b j ((chTab P b k).getD j []) ((cnTab P b k).getD j 0)
  | 0, _, j, h => by omega
  | k + 1, hk, j, hj => by
    have ih := ch_ok (b := b) ho hP k (by omega)
    have l1 := chTab_len (P := P) (b := b) k
    have l2 := cnTab_len (P := P) (b := b) k
    show ChOk P n b j ((chTab P b k ++ [chL (chTab P b k) (lks P k) k b]).getD j []) ((cnTab P b k ++ [cnL (cnTab P b k) (lks P k) (if k = b then 1 else 0)]).getD j 0)
    by_cases hjk : j < k
    · rw [getDL (by omega), getDI (by omega)]
      exact ih j hjk
    · have ej : j = k := by omega
      subst ej
      have e1 := getDR (T := chTab P b j) (x := chL (chTab P b j) (lks P j) j b)
      have e2 := getDJ (T := cnTab P b j) (x := cnL (cnTab P b j) (lks P j) (if j = b then 1 else 0))
      rw [l1] at e1
      rw [l2] at e2
      rw [e1, e2]
      have hlt : ∀ l ∈ lks P j, l.1 < j := fun l hl => lks_lt ho hl
      have mem : ∀ q, q ∈ chL (chTab P b j) (lks P j) j b ↔ Vw P n q ∧ hdn q = j ∧ lst q = b := by
        intro q
        unfold chL
        rw [List.mem_append, List.mem_flatMap]
        constructor
        · rintro (h | ⟨l, hl, h⟩)
          · by_cases e : j = b
            · rw [if_pos e] at h
              rw [List.mem_singleton.mp h]
              exact ⟨(show j < n by omega), rfl, e⟩
            · rw [if_neg e] at h; cases h
          · unfold chG at h
            cases h2 : l.2 with
            | true => rw [h2, if_pos rfl] at h; cases h
            | false =>
              rw [h2, if_neg Bool.false_ne_true] at h
              obtain ⟨q', hq', rfl⟩ := List.mem_map.mp h
              obtain ⟨hv, hh, hls⟩ := ((ih l.1 (hlt l hl)).mem q').mp hq'
              cases q' with
              | nil => exact hv.elim
              | cons c r =>
                have hc : c = l.1 := hh
                refine ⟨⟨by omega, ?_, hv⟩, rfl, by rw [lst_cons (by simp)]; exact hls⟩
                rw [hc, ← lk_tri l h2]; exact hl
        · rintro ⟨hv, hh, hls⟩
          cases q with
          | nil => exact hv.elim
          | cons a q =>
            have ha : a = j := hh
            subst ha
            cases q with
            | nil =>
              left
              have : a = b := hls
              rw [if_pos this]; exact List.mem_singleton.mpr rfl
            | cons c r =>
              right
              refine ⟨(c, false), hv.2.1, ?_⟩
              unfold chG
              rw [if_neg Bool.false_ne_true]
              refine List.mem_map.mpr ⟨c :: r, ((ih c (hlt _ hv.2.1)).mem (c :: r)).mpr ⟨hv.2.2, rfl, ?_⟩, rfl⟩
              rw [lst_cons (by simp)] at hls; exact hls
      refine ⟨?_, ?_, mem⟩
      · have := ch_len (T := chTab P b j) (U := cnTab P b j) (k := j) (lks P j) (if j = b then 1 else 0) fun l hl => (ih l.1 (hlt l hl)).len
        rw [← this]
        unfold chL
        rw [List.length_append]
        by_cases e : j = b
        · rw [if_pos e, if_pos e]; simp
        · rw [if_neg e, if_neg e]; simp
      · unfold chL
        have hp : P[j]? = some P[j] := List.getElem?_eq_getElem (by omega)
        have hnd : ((lks P j).map Prod.fst).Nodup := by rw [lks_get hp]; exact (ho j _ hp).nd
        refine List.nodup_append.mpr ⟨?_, nodup_fm Prod.fst (fun x => hdn x.tail) (chG (chTab P b j) j) (lks P j) hnd (fun l hl => ?_) (fun l hl x hx => ?_), fun x hx y hy e => ?_⟩
        · by_cases e : j = b
          · rw [if_pos e]; exact List.nodup_cons.mpr ⟨fun z => (by cases z), List.nodup_nil⟩
          · rw [if_neg e]; exact List.nodup_nil
        · unfold chG
          cases h2 : l.2 with
          | true => rw [if_pos rfl]; exact List.nodup_nil
          | false =>
            rw [if_neg Bool.false_ne_true]
            exact nodup_map_of (fun x _ y _ e => (List.cons.inj e).2) (ih l.1 (hlt l hl)).nd
        · unfold chG at hx
          cases h2 : l.2 with
          | true => rw [h2, if_pos rfl] at hx; cases hx
          | false =>
            rw [h2, if_neg Bool.false_ne_true] at hx
            obtain ⟨q', hq', rfl⟩ := List.mem_map.mp hx
            exact (((ih l.1 (hlt l hl)).mem q').mp hq').2.1
        · subst e
          obtain ⟨l, hl, hy⟩ := List.mem_flatMap.mp hy
          by_cases e : j = b
          · rw [if_pos e] at hx
            rw [List.mem_singleton.mp hx] at hy
            unfold chG at hy
            cases h2 : l.2 with
            | true => rw [h2, if_pos rfl] at hy; cases hy
            | false =>
              rw [h2, if_neg Bool.false_ne_true] at hy
              obtain ⟨q', hq', e3⟩ := List.mem_map.mp hy
              have : q' = [] := (List.cons.inj e3).2
              subst this
              exact (((ih l.1 (hlt l hl)).mem []).mp hq').1
          · rw [if_neg e] at hx; cases hx
theorem sum_fm {C : Nat → List (List Nat)} {f : Nat → Int} : ∀ (rs : List Nat), (∀ r ∈ rs, ((C r).length : Int) = f r) → (((rs.flatMap C).length : Nat) : Int) = (rs.map f).sum
  | [], _ => rfl
  | r :: rs, h => by
    have ih := sum_fm (C := C) (f := f) rs fun x hx => h x (List.mem_cons_of_mem _ hx)
    have := h r List.mem_cons_self
    rw [List.flatMap_cons, List.length_append, List.map_cons, List.sum_cons, ← ih]
    omega
section
variable {P Q : List Pn} {m t : Nat} {dc st : Nat → Bool}
end
end Tw

set_option maxHeartbeats 2000000
namespace Tw
open PySem
section
variable {P : List Pn} {m mi t : Nat} {ws : List Wd}
end
end Tw

set_option maxHeartbeats 2000000
namespace Tw
open PySem
section
variable {P Q : List Pn} {m mi t p n : Nat} {ws lb nm : List Wd}
end
end Tw

namespace Tw
open PySem
section
variable {ρ ρ' : DEnv} {a b k e : DE} {b0 s t : DS} {d v : D} {i j n : Nat} {o : Option Slot} {l : List D} {m : List Bool} {c : DT} {cl : List Nat}
theorem km_t : keepM (true :: m) (o :: ρ) = keep1 o :: keepM m ρ := rfl
theorem km_f : keepM (false :: m) (o :: ρ) = none :: keepM m ρ := rfl
theorem km_n : keepM [] (o :: ρ) = none :: keepM [] ρ := rfl
theorem km_0 : keepM m [] = [] := by cases m with | nil => rfl | cons b m => cases b <;> rfl
theorem k1_v : keep1 (some (.val d)) = some (.val d) := rfl
theorem k1_o : keep1 (some (.own d)) = some (.own d) := rfl
theorem k1_n : keep1 none = none := rfl
theorem se_n : subE [] = [] := rfl
theorem se_v : subE (some (.val d) :: ρ) = subD d ++ subE ρ := rfl
theorem se_o : subE (some (.own d) :: ρ) = subDs [d] ++ subE ρ := rfl
theorem se_0 : subE (none :: ρ) = subE ρ := rfl
/-- the def's own where the test holds -/
def ownXS (i : Nat) (k : List (List D)) (ρ : DEnv) (d : D) : R Out := match d with
  | .lst l => if (subDs l ++ k).all (neL l) then (setO i (.lst l) ρ).bind fun ρ' => .ok (.nx ρ') else (setV i (.lst l) ρ).bind fun ρ' => .ok (.nx ρ')
  | d => (setV i d ρ).bind fun ρ' => .ok (.nx ρ')
theorem q_ownX : sOwnX i m e ρ = (e (keepM m ρ)).st ρ (ownXS i (subE (keepM m ρ)) ρ) := rfl
theorem ox_n {k : List (List D)} : ownXS i k ρ .non = (setV i .non ρ).bind fun ρ' => .ok (.nx ρ') := rfl
theorem ox_t {k : List (List D)} : ownXS i k ρ (.tup l) = (setV i (.tup l) ρ).bind fun ρ' => .ok (.nx ρ') := rfl
def clrE (i : Nat) (ρ : DEnv) (o : Option Slot) : R Out := match o with
  | some (.own (.lst _)) => .ok (.nx (ρ.set i (some (.own (.lst [])))))
  | some (.val (.lst [])) => .ok (.nx ρ)
  | _ => .no
theorem q_clrE : sClearE i ρ = clrE i ρ (getO i ρ) := by
  unfold sClearE clrE getO
  cases h : ρ[i]? with
  | none => rfl
  | some o => cases o with
    | none => rfl
    | some o => cases o <;> first | rfl | (rename_i d; cases d <;> first | rfl | (rename_i l; cases l <;> rfl))
theorem ce_o : clrE i ρ (some (.own (.lst l))) = .ok (.nx (ρ.set i (some (.own (.lst []))))) := rfl
theorem ce_v : clrE i ρ (some (.val (.lst []))) = .ok (.nx ρ) := rfl
/-- y = x.pop() -/
def popS (i j : Nat) (ρ : DEnv) (o : Option Slot) : R Out := match o with
  | some (.own (.lst l)) => match l.getLast? with
    | some x => (setV i x (ρ.set j (some (.own (.lst l.dropLast))))).bind fun ρ' => .ok (.nx ρ')
    | none => .no
  | _ => .no
theorem q_pop : sPop i j ρ = popS i j ρ (getO j ρ) := by
  unfold sPop popS getO
  cases h : ρ[j]? with
  | none => rfl
  | some o => cases o with
    | none => rfl
    | some o => cases o <;> first | rfl | (rename_i d; cases d <;> rfl)
theorem pop_o {x : D} : popS i j ρ (some (.own (.lst (l ++ [x])))) = (setV i x (ρ.set j (some (.own (.lst l))))).bind fun ρ' => .ok (.nx ρ') := by
  unfold popS
  simp only [List.getLast?_append, List.getLast?_singleton, Option.some_or, List.dropLast_concat]
/-- the turn of a while -/
def whS (c : DT) (cl : List Nat) (b : DS) (n : Nat) (r : R Out) : R Out := match r with
  | .ok (.nx ρ') => whileL c cl b n (clrD cl ρ')
  | .ok (.ct ρ') => whileL c cl b n (clrD cl ρ')
  | .ok (.bk ρ') => .ok (.nx ρ')
  | r => r
def whK (c : DT) (cl : List Nat) (b : DS) (n : Nat) (ρ : DEnv) (k : Bool) : R Out := if k then whS c cl b n (b ρ) else .ok (.nx ρ)
theorem q_while : sWhile n c cl s ρ = whileL c cl s n (clrD cl ρ) := rfl
theorem wk_f : whK c cl s n ρ false = .ok (.nx ρ) := rfl
theorem wk_t : whK c cl s n ρ true = whS c cl s n (s ρ) := rfl
theorem ws_nx : whS c cl s n (.ok (.nx ρ)) = whileL c cl s n (clrD cl ρ) := rfl
theorem ws_ct : whS c cl s n (.ok (.ct ρ)) = whileL c cl s n (clrD cl ρ) := rfl
theorem ws_bk : whS c cl s n (.ok (.bk ρ)) = .ok (.nx ρ) := rfl
theorem ws_rt : whS c cl s n (.ok (.rt d ρ)) = .ok (.rt d ρ) := rfl
def revS (x : D) : R (List D) := match x with
  | .lst l => .ok l.reverse
  | _ => .no
theorem q_rev : iRev a ρ = (a ρ).bind revS := rfl
theorem rv_l : revS (.lst l) = .ok l.reverse := rfl
def dcS (g : DG) (c : DT) (ke ve : DE) (vs : List Nat) (ρ : DEnv) (l : List D) : R D := if l.length ≤ lineD ∧ okW vs ρ = true then (dcL g c ke ve (wipD vs ρ) l [] []).bind fun z => .ok (.dct z.1 z.2) else .no
theorem q_dcomp {it : DI} {g : DG} {ke ve : DE} {vs : List Nat} : eDComp it vs g c ke ve ρ = (it ρ).bind (dcS g c ke ve vs ρ) := rfl
/-- raise cn(..) -/
def raS (cn : String) (fs : List Str) (ρ : DEnv) (xs : List D) : R Out := if xs.length = fs.length then .ok (.xx ⟨cn, fs.reverse, xs.reverse⟩ ρ) else .no
theorem q_rais3 {cn : String} {fs : List Str} {as : DA} : sRaise cn fs as ρ = (as ρ).st ρ (raS cn fs ρ) := rfl
theorem ra_1 {cn : String} {f : Str} {x : D} : raS cn [f] ρ [x] = .ok (.xx ⟨cn, [f], [x]⟩ ρ) := rfl
theorem ra_2 {cn : String} {f g : Str} {x y : D} : raS cn [f, g] ρ [x, y] = .ok (.xx ⟨cn, [g, f], [y, x]⟩ ρ) := rfl
theorem ra_3 {cn : String} {f g h : Str} {x y z : D} : raS cn [f, g, h] ρ [x, y, z] = .ok (.xx ⟨cn, [h, g, f], [z, y, x]⟩ ρ) := rfl
theorem sT9 {mk : List D → D} {x0 x1 x2 x3 x4 x5 x6 x7 x8 : D} : seqS mk [x0, x1, x2, x3, x4, x5, x6, x7, x8] = .ok (mk [x0, x1, x2, x3, x4, x5, x6, x7, x8]) := if_pos (by show 9 ≤ lineD; decide)
theorem sT10 {mk : List D → D} {x0 x1 x2 x3 x4 x5 x6 x7 x8 x9 : D} : seqS mk [x0, x1, x2, x3, x4, x5, x6, x7, x8, x9] = .ok (mk [x0, x1, x2, x3, x4, x5, x6, x7, x8, x9]) := if_pos (by show 10 ≤ lineD; decide)
theorem sT11 {mk : List D → D} {x0 x1 x2 x3 x4 x5 x6 x7 x8 x9 x10 : D} : seqS mk [x0, x1, x2, x3, x4, x5, x6, x7, x8, x9, x10] = .ok (mk [x0, x1, x2, x3, x4, x5, x6, x7, x8, x9, x10]) := if_pos (by show 11 ≤ lineD; decide)
theorem sT12 {mk : List D → D} {x0 x1 x2 x3 x4 x5 x6 x7 x8 x9 x10 x11 : D} : seqS mk [x0, x1, x2, x3, x4, x5, x6, x7, x8, x9, x10, x11] = .ok (mk [x0, x1, x2, x3, x4, x5, x6, x7, x8, x9, x10, x11]) := if_pos (by show 12 ≤ lineD; decide)
theorem sT13 {mk : List D → D} {x0 x1 x2 x3 x4 x5 x6 x7 x8 x9 x10 x11 x12 : D} : seqS mk [x0, x1, x2, x3, x4, x5, x6, x7, x8, x9, x10, x11, x12] = .ok (mk [x0, x1, x2, x3, x4, x5, x6, x7, x8, x9, x10, x11, x12]) := if_pos (by show 13 ≤ lineD; decide)
theorem sT14 {mk : List D → D} {x0 x1 x2 x3 x4 x5 x6 x7 x8 x9 x10 x11 x12 x13 : D} : seqS mk [x0, x1, x2, x3, x4, x5, x6, x7, x8, x9, x10, x11, x12, x13] = .ok (mk [x0, x1, x2, x3, x4, x5, x6, x7, x8, x9, x10, x11, x12, x13]) := if_pos (by show 14 ≤ lineD; decide)
def ev3 := And.intro @sT9 <| And.intro @sT10 <| And.intro @sT11 <| And.intro @sT12 <| And.intro @sT13 <| And.intro @sT14 <| And.intro @q_rais3 <| And.intro @ra_1 <| And.intro @ra_2 <| And.intro @ra_3 <| And.intro @q_rev <| And.intro @rv_l <| And.intro @q_dcomp <| And.intro @km_t <| And.intro @km_f <| And.intro @km_n <| And.intro @km_0 <| And.intro @k1_v <| And.intro @k1_o <| And.intro @k1_n <| And.intro @se_n <| And.intro @se_v <| And.intro @se_o <| And.intro @se_0 <| And.intro @q_ownX <| And.intro @ox_n <| And.intro @ox_t <| And.intro @q_clrE <| And.intro @ce_o <| And.intro @ce_v <| And.intro @q_pop <| And.intro @pop_o <| And.intro @q_while <| And.intro @wk_f <| And.intro @wk_t <| And.intro @ws_nx <| And.intro @ws_ct <| And.intro @ws_bk @ws_rt
end
end Tw

set_option maxHeartbeats 2000000
namespace Tw
open PySem
section
variable {nm : List Wd} {d : D} {o7 o8 o9 o10 : Option Slot} {L : List CL}
end
end Tw

set_option maxHeartbeats 2000000
namespace Tw
open PySem
section
variable {P : List Pn} {m t p n : Nat} {ws lb nm : List Wd}
end
end Tw

set_option maxHeartbeats 2000000
namespace Tw
open PySem
section
variable {P : List Pn} {m n t : Nat} {ws lb nm : List Wd}
theorem wayD_app (A B : List (List Nat)) : wayD ws (A ++ B) = wayD ws A ++ wayD ws B := by unfold wayD; rw [List.map_append]
/-- the copies to which q leads, in the order of the bases -/
def kids (P : List Pn) (q : List Nat) : List (List Nat) := (lks P (lst q)).map (stp q)
structure DfI (P : List Pn) (t : Nat) (Fd st : List (List Nat)) : Prop where
  nd : Fd.Nodup
  rc : ∀ q ∈ Fd, Rch P [t] q
  rs : ∀ q ∈ st, Rch P [t] q
  cl : ∀ q ∈ Fd, ∀ l ∈ lks P (lst q), stp q l ∈ Fd ∨ stp q l ∈ st
  tp : [t] ∈ Fd ∨ [t] ∈ st
theorem DfI.skip {Fd st : List (List Nat)} {w : List Nat} (h : DfI P t Fd (w :: st)) (hw : w ∈ Fd) : DfI P t Fd st :=
  ⟨h.nd, h.rc, fun q hq => h.rs q (List.mem_cons_of_mem _ hq), fun q hq l hl => (h.cl q hq l hl).elim .inl fun z => (List.mem_cons.mp z).elim (fun e => .inl (e ▸ hw)) .inr,
    h.tp.elim .inl fun z => (List.mem_cons.mp z).elim (fun e => .inl (e ▸ hw)) .inr⟩
theorem DfI.go {Fd st : List (List Nat)} {w : List Nat} (h : DfI P t Fd (w :: st)) (hw : w ∉ Fd) : DfI P t (Fd ++ [w]) (kids P w ++ st) := by
  have rw' := h.rs w List.mem_cons_self
  refine ⟨List.nodup_append.mpr ⟨h.nd, List.nodup_cons.mpr ⟨fun z => (by cases z), List.nodup_nil⟩, fun a ha b hb e => hw (by rw [List.mem_singleton.mp hb] at e; exact e ▸ ha)⟩, fun q hq => ?_, fun q hq => ?_, fun q hq l hl => ?_, ?_⟩
  · rcases List.mem_append.mp hq with z | z
    · exact h.rc q z
    · rw [List.mem_singleton.mp z]; exact rw'
  · rcases List.mem_append.mp hq with z | z
    · obtain ⟨l, hl, rfl⟩ := List.mem_map.mp z
      exact .step rw' hl
    · exact h.rs q (List.mem_cons_of_mem _ z)
  · rcases List.mem_append.mp hq with z | z
    · rcases h.cl q z l hl with y | y
      · exact .inl (List.mem_append_left _ y)
      · rcases List.mem_cons.mp y with e | y
        · exact .inl (List.mem_append_right _ (by rw [e]; exact List.mem_singleton_self _))
        · exact .inr (List.mem_append_right _ y)
    · rw [List.mem_singleton.mp z] at hl ⊢
      exact .inr (List.mem_append_left _ (List.mem_map.mpr ⟨l, hl, rfl⟩))
  · rcases h.tp with z | z
    · exact .inl (List.mem_append_left _ z)
    · rcases List.mem_cons.mp z with e | z
      · exact .inl (List.mem_append_right _ (by rw [e]; exact List.mem_singleton_self _))
      · exact .inr (List.mem_append_right _ z)
theorem DfI.done {Fd : List (List Nat)} (h : DfI P t Fd []) : ∀ q, q ∈ Fd ↔ Rch P [t] q := fun q => by
  constructor
  · exact h.rc q
  · intro hq
    induction hq with
    | refl => exact h.tp.elim id fun z => by cases z
    | step _ hl ih => exact (h.cl _ ih _ hl).elim id fun z => by cases z
noncomputable abbrev eF (L : D) (t : Nat) (ws : List Wd) (Fd W : List (List Nat)) (a4 a5 : Option Slot) : DEnv := [some (.val L), some (.val (.str (S (ws.getD t [])))), some (.own (.lst (wayD ws Fd))), some (.own (.lst (wayD ws W))), a4, a5]
end
end Tw

set_option maxHeartbeats 2000000
namespace Tw
open PySem
section
variable {P : List Pn} {m t b : Nat} {ws lb nm : List Wd}
/-- the copies of b in an object of t -/
theorem ways_of (ho : PlanOk m P) (ht : t < P.length) (b : Nat) : ∃ E : List (List Nat), E.Nodup ∧ (∀ q, q ∈ E ↔ Rch P [t] q ∧ lst q = b) ∧ (E.length : Int) = cc P t b := by
  have hv : Vw P P.length [t] := ht
  have ok := fun j (hj : j < P.length) => ch_ok (b := b) ho rfl P.length (Nat.le_refl _) j hj
  have hsh : ∀ r ∈ shI P t, r < t := fun r hr => ((mem_shI ho).mp hr).lt ho
  have rnd : (t :: shI P t).Nodup := List.nodup_cons.mpr ⟨fun z => by have := hsh _ z; omega, List.nodup_range.filter _⟩
  have rlt : ∀ r ∈ t :: shI P t, r < P.length := fun r hr => by
    rcases List.mem_cons.mp hr with rfl | h
    · exact ht
    · have := hsh r h; omega
  refine ⟨(t :: shI P t).flatMap fun r => (chTab P b P.length).getD r [], ?_, fun q => ?_, ?_⟩
  · exact nodup_fm id hdn _ _ (by rw [List.map_id]; exact rnd) (fun r hr => (ok r (rlt r hr)).nd) fun r hr x hx => (((ok r (rlt r hr)).mem x).mp hx).2.1
  · rw [List.mem_flatMap]
    constructor
    · rintro ⟨r, hr, hx⟩
      obtain ⟨hq, hh, hl⟩ := ((ok r (rlt r hr)).mem q).mp hx
      refine ⟨(rch_iff ho hv hq).mpr ?_, hl⟩
      rcases List.mem_cons.mp hr with rfl | h
      · right
        cases q with
        | nil => exact hq.elim
        | cons a q =>
          have : a = r := hh
          rw [this]; rfl
      · left
        rw [hh]; exact (mem_shI ho).mp h
    · rintro ⟨hr, hl⟩
      have hq := hr.vw ho hv
      rcases (rch_iff ho hv hq).mp hr with h | h
      · exact ⟨hdn q, List.mem_cons_of_mem _ ((mem_shI ho).mpr h), ((ok _ (rlt _ (List.mem_cons_of_mem _ ((mem_shI ho).mpr h)))).mem q).mpr ⟨hq, rfl, hl⟩⟩
      · refine ⟨t, List.mem_cons_self, ((ok t ht).mem q).mpr ⟨hq, ?_, hl⟩⟩
        cases q with
        | nil => exact hq.elim
        | cons a q => exact (List.cons.inj h).1
  · rw [sum_fm (f := fun r => (cnTab P b P.length).getD r 0) _ fun r hr => (ok r (rlt r hr)).len]
    unfold cc
    rw [List.map_cons, List.sum_cons]
/-- how many copies an object of t has -/
noncomputable def tot (P : List Pn) (t : Nat) : Int := 1 + ((abI P t).map fun b => cc P t b).sum
end
end Tw

set_option maxHeartbeats 2000000
namespace Tw
open PySem
section
variable {P : List Pn} {m t b : Nat} {ws lb nm : List Wd}
end
end Tw

set_option maxHeartbeats 2000000
namespace Tw
open PySem
section
variable {ws lb nm : List Wd} {P : List Pn} {m n k b : Nat}
/-- what convert finds -/
noncomputable def cvL (P : List Pn) (b : Nat) (w : List Nat) : List (List Nat) :=
  ((fwT P b P.length).getD (lst w) []).map (w.dropLast ++ ·) ++ (shI P (lst w)).flatMap fun r => (fwT P b P.length).getD r []
/-- what it answers -/
noncomputable def cvR (ws : List Wd) (b : Nat) : List (List Nat) → R D
  | [] => .ex ⟨"NoCopy", ["title"], [.str (S (ws.getD b []))]⟩
  | [f] => .ok (tld ws f)
  | f :: g :: _ => .ex ⟨"Ambiguous", ["other", "one", "name"], [tld ws g, tld ws f, .str (S (ws.getD b []))]⟩
theorem cv_loop (hw : Wds ws) {T : List (List (List Nat))} (hT : T.length ≤ ws.length) (h2 : ∀ j, j < T.length → (T.getD j []).length ≤ 2) {a0 a1 a2 a3 a7 a8 : Option Slot} : ∀ (rs : List Nat) (F : List (List Nat)), (∀ r ∈ rs, r < T.length) → F.length + rs.length * 2 ≤ 100000 →
    forL (gVar 6) [6] b_convert_1 (rs.map fun r => .str (S (ws.getD r []))) [a0, a1, a2, a3, some (.val (dV ws T)), some (.val (.lst (wayD ws F))), none, a7, a8] =
      .ok (.nx [a0, a1, a2, a3, some (.val (dV ws T)), some (.val (.lst (wayD ws (F ++ rs.flatMap fun r => T.getD r [])))), none, a7, a8])
  | [], F, _, _ => by rw [List.map_nil, f_n, List.flatMap_nil, List.append_nil]
  | r :: rs, F, hr, hl => by
    have h1 := hr r List.mem_cons_self
    have h3 := h2 r h1
    rw [List.length_cons] at hl
    have ix := dV_look (T := T) hw.nd hT h1
    have ad : oAdd (.lst (wayD ws F)) (.lst (wayD ws (T.getD r []))) = some (.lst (wayD ws (F ++ T.getD r []))) := by
      rw [p_addl (by unfold wayD; rw [List.length_map, List.length_map]; omega), ← wayD_app]
    have st : b_convert_1 [a0, a1, a2, a3, some (.val (dV ws T)), some (.val (.lst (wayD ws F))), some (.val (.str (S (ws.getD r [])))), a7, a8] = .ok (.nx [a0, a1, a2, a3, some (.val (dV ws T)), some (.val (.lst (wayD ws (F ++ T.getD r [])))), some (.val (.str (S (ws.getD r [])))), a7, a8]) := by
      unfold b_convert_1
      simp -implicitDefEqProofs (disch := (first | assumption | omega | (simp only [ngs]; done) | decide)) only [ev, R.bind_ok, R.bind_ex, R.st_ok, R.st_ex, R.of_some, List.length_map, ix, ad]
    have ih := cv_loop hw hT h2 (a0 := a0) (a1 := a1) (a2 := a2) (a3 := a3) (a7 := a7) (a8 := a8) rs (F ++ T.getD r []) (fun x hx => hr x (List.mem_cons_of_mem _ hx)) (by rw [List.length_append]; omega)
    rw [List.map_cons, f_c, List.flatMap_cons, ← List.append_assoc]
    simp -implicitDefEqProofs (disch := (first | assumption | omega | (simp only [ngs]; done) | decide)) only [ev, R.bind_ok, R.bind_ex, R.st_ok, R.st_ex, R.of_some, List.length_map, st, ih]
/-- what decided answers -/
noncomputable def dcR (ws : List Wd) (t : D) : List (List Nat) → R D
  | [] => .ex ⟨"NoCopy", ["title"], [t]⟩
  | [f] => .ok (tld ws f)
  | f :: g :: _ => .ex ⟨"TwoWays", ["other", "one"], [tld ws g, tld ws f]⟩
theorem decided_ok (F : List (List Nat)) (hl : F.length ≤ 100000) (t : D) : d_decided [.lst (wayD ws F), t] = dcR ws t F := by
  match F, hl with
  | [], _ =>
    have ln : oLen (.lst (wayD ws [])) = some (.int 0) := rfl
    have c0 : decide ((0 : Int) > 1) = false := by decide
    have c1 : decide ((0 : Int) = 0) = true := by decide
    rw [e_decided]
    unfold b_decided
    simp -implicitDefEqProofs (disch := (first | assumption | omega | (simp only [ngs]; done) | decide)) only [ev, ev2, ev3, R.bind_ok, R.bind_ex, R.st_ok, R.st_ex, R.of_some, List.length_map, ↓ln, c0, c1]
    rfl
  | [f], _ =>
    have ln : oLen (.lst (wayD ws [f])) = some (.int 1) := rfl
    have c0 : decide ((1 : Int) > 1) = false := by decide
    have c1 : decide ((1 : Int) = 0) = false := by decide
    have x0 : oIx (.lst (wayD ws [f])) (.int 0) = some (tld ws f) := rfl
    rw [e_decided]
    unfold b_decided
    simp -implicitDefEqProofs (disch := (first | assumption | omega | (simp only [ngs]; done) | decide)) only [ev, ev2, ev3, R.bind_ok, R.bind_ex, R.st_ok, R.st_ex, R.of_some, List.length_map, ↓ln, c0, c1, ↓x0]
    rfl
  | f :: g :: F, hl =>
    have hl2 : F.length + 1 + 1 ≤ 100000 := hl
    have ln : oLen (.lst (wayD ws (f :: g :: F))) = some (.int ((F.length + 2 : Nat) : Int)) := by rw [p_lenl]; unfold wayD; rw [List.length_map]; rfl
    have c0 : decide (((F.length + 2 : Nat) : Int) > 1) = true := decide_eq_true (by omega)
    have x0 : oIx (.lst (wayD ws (f :: g :: F))) (.int 0) = some (tld ws f) := rfl
    have x1 : oIx (.lst (wayD ws (f :: g :: F))) (.int 1) = some (tld ws g) := rfl
    rw [e_decided]
    unfold b_decided
    simp -implicitDefEqProofs (disch := (first | assumption | omega | (simp only [ngs]; done) | decide)) only [ev, ev2, ev3, R.bind_ok, R.bind_ex, R.st_ok, R.st_ex, R.of_some, List.length_map, ↓ln, c0, ↓x0, ↓x1]
    rfl
theorem convert_ok (hw : Wds ws) (ho : PlanOk lb.length P) (hP : P.length ≤ ws.length) (hb : b < P.length) {w : List Nat} (hv : Vw P P.length w) :
    d_convert [liD (clsOf ws lb P P.length) nm, tld ws w, .str (S (ws.getD b []))] = cvR ws b (cvL P b w) := by
  have h4 := hw.l
  obtain ⟨ht, hlast⟩ := hv.last
  have hwa := hv.all (lb := lb) ho
  have co := contains_ok (lb := lb) (P := P) (nm := nm) hw hP hb
  have gi := getitem_ok (lb := lb) (P := P) (nm := nm) hw hP ht
  have fw := few_ways_ok (nm := nm) hw ho hP hb
  have tl := tld_last hw hP hv
  have hT : (fwT P b P.length).length = P.length := vsTab_len P.length
  have hvw : ∀ j, j < P.length → (∀ q ∈ (fwT P b P.length).getD j [], Vw P P.length q ∧ hdn q = j) ∧ ((fwT P b P.length).getD j []).length ≤ 2 := vsTab_vw (st := st0) (dc := dcB b) (n := P.length) ho P.length (Nat.le_refl _)
  have hsh := sh_of_li (lb := lb) hw hP ht
  have rm : ∀ d x, rmnS "Library" d x (liD (clsOf ws lb P P.length) nm) = (d [liD (clsOf ws lb P P.length) nm, x]).bind nblS := fun d x => rmn_o
  have ix := dV_look (T := fwT P b P.length) hw.nd (by omega) (i := lst w) (by omega)
  have ct : (clOf ws lb P (lst w)).r.t = ws.getD (lst w) [] := rfl
  have iw : ∀ F, iterD (.lst (wayD ws F)) = some (wayD ws F) := fun F => rfl
  have sl : oSl none (some (-1)) (tld ws w) = some (tld ws w.dropLast) := by
    have hlw : w.length ≠ 0 := fun z => hv.ne (List.length_eq_zero_iff.mp z)
    have e : cutD (stL (wmap ws w)) none (some (-1)) = (stL (wmap ws w)).take ((stL (wmap ws w)).length - 1) := by
      have h1 : (stL (wmap ws w)).length = w.length := by rw [stL_len]; unfold wmap; rw [List.length_map]
      have e1 : sIxD (stL (wmap ws w)).length 0 none = 0 := rfl
      have e2 : sIxD (stL (wmap ws w)).length (stL (wmap ws w)).length (some (-1)) = (stL (wmap ws w)).length - 1 := by
        show (if (-1 : Int) < 0 then ((-1 : Int) + ((stL (wmap ws w)).length : Int)).toNat else min (-1 : Int).toNat (stL (wmap ws w)).length) = (stL (wmap ws w)).length - 1
        rw [if_pos (by decide)]
        omega
      unfold cutD
      rw [e1, e2, List.drop_zero, Nat.sub_zero]
    show some (D.tup (cutD (stL (wmap ws w)) none (some (-1)))) = some (D.tup (stL (wmap ws w.dropLast)))
    rw [e, ← List.dropLast_eq_take]
    unfold stL wmap
    rw [List.map_dropLast, List.map_dropLast]
  have tu : oTuple (tld ws w.dropLast) = some (tld ws w.dropLast) := rfl
  have wl := hwa.2
  have cm : ∀ c5, compS (gVar 8) tYesD (e2 oAdd (e1 oTuple (eSl (eVar 1) xNone (xSome (e1 oNeg (eC (.int 1)))))) (eVar 8)) [8] [some (.val (liD (clsOf ws lb P P.length) nm)), some (.val (tld ws w)), some (.val (.str (S (ws.getD b [])))), some (.val (kiD (clOf ws lb P (lst w)))), some (.val (dV ws (fwT P b P.length))), c5, none, none, none] (wayD ws ((fwT P b P.length).getD (lst w) [])) = .ok (.lst (wayD ws (((fwT P b P.length).getD (lst w) []).map (w.dropLast ++ ·)))) := by
    intro c5
    have e := comp_map (g := gVar 8) (p := tYesD) (e := e2 oAdd (e1 oTuple (eSl (eVar 1) xNone (xSome (e1 oNeg (eC (.int 1)))))) (eVar 8)) (vs := [8]) (ρ := [some (.val (liD (clsOf ws lb P P.length) nm)), some (.val (tld ws w)), some (.val (.str (S (ws.getD b [])))), some (.val (kiD (clOf ws lb P (lst w)))), some (.val (dV ws (fwT P b P.length))), c5, none, none, none]) (tld ws) (fun q => tld ws (w.dropLast ++ q)) (l := (fwT P b P.length).getD (lst w) []) (by have := (hvw (lst w) ht).2; omega) rfl (fun q hq => by
      have hql := (((hvw (lst w) ht).1 q hq).1.all (lb := lb) ho).2
      have ad : oAdd (tld ws w.dropLast) (tld ws q) = some (tld ws (w.dropLast ++ q)) := by
        unfold tld
        rw [p_addt (by rw [stL_len, stL_len]; unfold wmap; rw [List.length_map, List.length_map, List.length_dropLast]; omega)]
        unfold stL wmap
        rw [List.map_append, List.map_append]
      unfold cStep
      simp -implicitDefEqProofs (disch := (first | assumption | omega | (simp only [ngs]; done) | decide)) only [ev, ev2, ev3, R.bind_ok, R.bind_ex, R.st_ok, R.st_ex, R.of_some, List.length_map, sl, tu, ad, if_true])
    unfold wayD at e ⊢
    rw [List.map_map]
    exact e
  have lp := fun a0 a1 a2 a3 a7 a8 => cv_loop hw (T := fwT P b P.length) (by omega) (fun j hj => (hvw j (by omega)).2) (a0 := a0) (a1 := a1) (a2 := a2) (a3 := a3) (a7 := a7) (a8 := a8) (shI P (lst w)) (((fwT P b P.length).getD (lst w) []).map (w.dropLast ++ ·)) (fun r hr => by have := ((mem_shI ho).mp hr).lt ho; omega) (by have := (hvw (lst w) ht).2; have := shI_len P (lst w); rw [List.length_map]; omega)
  have dl : (cvL P b w).length ≤ 100000 := by
    have hf : ∀ rs : List Nat, (∀ r ∈ rs, r < P.length) → (rs.flatMap fun r => (fwT P b P.length).getD r []).length ≤ 2 * rs.length := by
      intro rs
      induction rs with
      | nil => intro _; exact Nat.zero_le _
      | cons r rs ih =>
        intro h
        have h1 := ih fun x hx => h x (List.mem_cons_of_mem _ hx)
        have h2 := (hvw r (h r List.mem_cons_self)).2
        rw [List.flatMap_cons, List.length_append, List.length_cons]
        omega
    have h1 := hf (shI P (lst w)) fun r hr => by have := ((mem_shI ho).mp hr).lt ho; omega
    have h2 := (hvw (lst w) ht).2
    have h3 := shI_len P (lst w)
    unfold cvL
    rw [List.length_append, List.length_map]
    omega
  have dk := decided_ok (ws := ws) (cvL P b w) dl (.str (S (ws.getD b [])))
  have its : ∀ l : List D, iterD (.tup l) = some l := fun l => rfl
  unfold cvL at dk ⊢
  generalize hF : ((fwT P b P.length).getD (lst w) []).map (w.dropLast ++ ·) ++ (shI P (lst w)).flatMap (fun r => (fwT P b P.length).getD r []) = F at dk lp ⊢
  rw [e_convert]
  unfold b_convert sTryR
  match F, dk with
  | [], dk =>
    simp -implicitDefEqProofs (disch := (first | assumption | omega | (simp only [ngs]; done) | decide)) only [ev, ev2, ev3, R.bind_ok, R.bind_ex, R.st_ok, R.st_ex, R.of_some, List.length_map, rm, co, tl, ixo_li, gi, fw, ki_t, ct, ix, iw, cm, hsh, its, lp, dk]
    rfl
  | [f], dk =>
    simp -implicitDefEqProofs (disch := (first | assumption | omega | (simp only [ngs]; done) | decide)) only [ev, ev2, ev3, R.bind_ok, R.bind_ex, R.st_ok, R.st_ex, R.of_some, List.length_map, rm, co, tl, ixo_li, gi, fw, ki_t, ct, ix, iw, cm, hsh, its, lp, dk]
    rfl
  | f :: g :: F, dk =>
    simp -implicitDefEqProofs (disch := (first | assumption | omega | (simp only [ngs]; done) | decide)) only [ev, ev2, ev3, R.bind_ok, R.bind_ex, R.st_ok, R.st_ex, R.of_some, List.length_map, rm, co, tl, ixo_li, gi, fw, ki_t, ct, ix, iw, cm, hsh, its, lp, dk]
    rfl
end
end Tw

set_option maxHeartbeats 2000000
namespace Tw
open PySem
section
variable {P : List Pn} {m n b t : Nat}
theorem vw_join : ∀ {u : List Nat} {r : List Nat}, Vw P n (u ++ [t]) → Vw P n (t :: r) → Vw P n (u ++ t :: r)
  | [], r, _, h => h
  | [a], r, h, k => by
    obtain ⟨h1, h2, _⟩ : a < n ∧ (t, false) ∈ lks P a ∧ Vw P n [t] := h
    exact ⟨h1, h2, k⟩
  | a :: c :: u, r, h, k => by
    obtain ⟨h1, h2, h3⟩ : a < n ∧ (c, false) ∈ lks P a ∧ Vw P n (c :: u ++ [t]) := h
    exact ⟨h1, h2, vw_join (u := c :: u) h3 k⟩
theorem vw_tail : ∀ {u : List Nat} {r : List Nat}, Vw P n (u ++ t :: r) → Vw P n (t :: r)
  | [], r, h => h
  | [a], r, h => h.2.2
  | a :: c :: u, r, h => vw_tail (u := c :: u) (show Vw P n (c :: u ++ t :: r) from h.2.2)
theorem lst_join {u : List Nat} {r : List Nat} : lst (u ++ t :: r) = lst (t :: r) := by
  unfold lst
  rw [List.getLast?_append]
  cases h : (t :: r).getLast? with
  | none => simp at h
  | some a => rfl
theorem vw_split {w : List Nat} (h : Vw P n w) : w = w.dropLast ++ [lst w] := by
  have hl := h.last.2
  clear h
  induction w with
  | nil => cases hl
  | cons a r ih =>
    cases r with
    | nil => rfl
    | cons c r =>
      rw [List.getLast?_cons_cons] at hl
      have e1 : lst (a :: c :: r) = lst (c :: r) := by unfold lst; rw [List.getLast?_cons_cons]
      rw [e1] at hl ⊢
      show a :: c :: r = a :: ((c :: r).dropLast ++ [lst (c :: r)])
      rw [← ih hl]
theorem vw_nd (ho : PlanOk m P) {q : List Nat} (h : Vw P n q) : q.Nodup := by
  have s := h.sub ho (b := n) fun a r e => by
    rw [e] at h
    cases r with
    | nil => exact h
    | cons b r => exact h.1
  exact s.nodup ((List.pairwise_reverse.mpr (List.nodup_range.imp fun h => h.symm)))
noncomputable abbrev fuT (P : List Pn) (b j : Nat) : List (List Nat) := (vfTab (dcB b) P P.length).getD j []
abbrev wT (P : List Pn) (b j : Nat) : List (List Nat) := (fwT P b P.length).getD j []
theorem fu_mem (ho : PlanOk m P) {j : Nat} (hj : j < P.length) {q : List Nat} : q ∈ fuT P b j ↔ Vw P P.length q ∧ hdn q = j ∧ lst q = b := by
  rw [vf_mem (n := P.length) ho P.length (Nat.le_refl _) j hj q]
  constructor
  · rintro ⟨h1, h2, h3, _⟩
    exact ⟨h1, h2, of_decide_eq_true h3⟩
  · rintro ⟨h1, h2, h3⟩
    refine ⟨h1, h2, decide_eq_true h3, fun a ha => decide_eq_false fun z => ?_⟩
    have nd := vw_nd ho h1
    rw [vw_split h1, List.nodup_append] at nd
    exact nd.2.2 a ha (lst q) (List.mem_singleton.mpr rfl) (by rw [z, h3])
theorem w_thin (ho : PlanOk m P) {j : Nat} (hj : j < P.length) : Thin st0 (wT P b j) (fuT P b j) := vs_thin ho P.length (Nat.le_refl _) j hj
theorem w_nd (ho : PlanOk m P) {j : Nat} (hj : j < P.length) : (wT P b j).Nodup := by
  have th := w_thin (b := b) ho hj
  by_cases h : 2 ≤ (wT P b j).length
  · obtain ⟨x, y, e, _, _, _, ne⟩ := th.two h
    rw [e]
    exact List.nodup_cons.mpr ⟨fun z => ne (List.mem_singleton.mp z), (List.nodup_cons.mpr ⟨fun z => (nomatch z), List.nodup_nil⟩)⟩
  · match hF : wT P b j, h with
    | [], _ => exact List.nodup_nil
    | [x], _ => exact (List.nodup_cons.mpr ⟨fun z => (nomatch z), List.nodup_nil⟩)
    | x :: y :: F, h => exact absurd (show 2 ≤ (x :: y :: F).length by simp) h
theorem w_one (ho : PlanOk m P) {j : Nat} (hj : j < P.length) {q : List Nat} (hq : q ∈ fuT P b j) : ∃ e ∈ wT P b j, e ∈ fuT P b j ∧ ((∀ x ∈ wT P b j, x = e) → q = e) := by
  have th := w_thin (b := b) ho hj
  cases hW : wT P b j with
  | nil => rw [th.ne hW] at hq; cases hq
  | cons e F =>
    have he : e ∈ wT P b j := by rw [hW]; exact List.mem_cons_self
    refine ⟨e, List.mem_cons_self, th.sub e he, fun h => ?_⟩
    by_cases h2 : 2 ≤ (wT P b j).length
    · obtain ⟨x, y, e2, _, _, _, ne⟩ := th.two h2
      rw [hW] at e2
      rw [e2] at h
      exact absurd ((h x List.mem_cons_self).trans (h y (List.mem_cons_of_mem _ List.mem_cons_self)).symm) ne
    · by_cases hqe : q = e
      · exact hqe
      · have := (th.one (by omega) q hq e (th.sub e he) hqe).2
        cases this
theorem vw_le (ho : PlanOk m P) {w : List Nat} (h : Vw P n w) : lst w ≤ hdn w := by
  cases w with
  | nil => exact h.elim
  | cons a r =>
    have h : Vw P n ([a] ++ r) := h
    rcases vw_ab (w := [a]) (by simp) h with e | e
    · rw [show a :: r = [a] ++ r from rfl, e]; exact Nat.le_refl _
    · exact Nat.le_of_lt (e.lt ho)
theorem cv_spec (ho : PlanOk m P) {w : List Nat} (hv : Vw P P.length w) :
    (∀ f ∈ cvL P b w, Rch P w f ∧ lst f = b) ∧ (∀ q, Rch P w q → lst q = b → ∃ e ∈ cvL P b w, ((∀ x ∈ cvL P b w, x = e) → q = e)) ∧ (cvL P b w).Nodup := by
  obtain ⟨ht, _⟩ := hv.last
  have sp := vw_split hv
  have rlt : ∀ r ∈ shI P (lst w), r < lst w := fun r hr => ((mem_shI ho).mp hr).lt ho
  refine ⟨fun f hf => ?_, fun q hq hb => ?_, ?_⟩
  · rcases List.mem_append.mp hf with h | h
    · obtain ⟨q, hq, rfl⟩ := List.mem_map.mp h
      obtain ⟨q1, q2, q3⟩ := (fu_mem ho ht).mp ((w_thin ho ht).sub q hq)
      cases q with
      | nil => exact q1.elim
      | cons a r =>
        have : a = lst w := q2
        subst this
        have hj : Vw P P.length (w.dropLast ++ lst w :: r) := vw_join (by rw [← sp]; exact hv) q1
        refine ⟨?_, by rw [lst_join]; exact q3⟩
        have e : w.dropLast ++ lst w :: r = w ++ r := by
          conv => rhs; rw [sp]
          rw [List.append_assoc]; rfl
        rw [e] at hj ⊢
        exact rch_app r w hv.ne .refl hj
    · obtain ⟨r, hr, hq⟩ := List.mem_flatMap.mp h
      have := rlt r hr
      obtain ⟨q1, q2, q3⟩ := (fu_mem ho (by omega)).mp ((w_thin ho (by omega)).sub f hq)
      exact ⟨(rch_iff ho hv q1).mpr (.inl (by rw [q2]; exact (mem_shI ho).mp hr)), q3⟩
  · have qv := hq.vw ho hv
    rcases (rch_iff ho hv qv).mp hq with h | h
    · have hr := (mem_shI ho).mpr h
      have := rlt _ hr
      obtain ⟨e, e1, e2, e3⟩ := w_one ho (by omega : hdn q < P.length) ((fu_mem ho (by omega)).mpr ⟨qv, rfl, hb⟩)
      refine ⟨e, List.mem_append_right _ (List.mem_flatMap.mpr ⟨_, hr, e1⟩), fun hx => e3 fun x hx2 => hx x (List.mem_append_right _ (List.mem_flatMap.mpr ⟨_, hr, hx2⟩))⟩
    · have eq : q = w.dropLast ++ lst w :: q.drop w.length := by
        have := (List.take_append_drop w.length q).symm
        rw [h] at this
        conv => lhs; rw [this]
        conv => lhs; lhs; rw [sp]
        rw [List.append_assoc]; rfl
      rw [eq] at qv hb
      have tv := vw_tail qv
      rw [lst_join] at hb
      obtain ⟨e, e1, e2, e3⟩ := w_one ho ht ((fu_mem ho ht).mpr ⟨tv, rfl, hb⟩)
      refine ⟨w.dropLast ++ e, List.mem_append_left _ (List.mem_map.mpr ⟨e, e1, rfl⟩), fun hx => ?_⟩
      rw [eq, e3 fun x hx2 => List.append_cancel_left (hx _ (List.mem_append_left _ (List.mem_map.mpr ⟨x, hx2, rfl⟩)))]
  · have fl : ∀ rs : List Nat, rs.Nodup → (∀ r ∈ rs, r < P.length) → (rs.flatMap fun r => wT P b r).Nodup := by
      intro rs
      induction rs with
      | nil => intro _ _; exact List.nodup_nil
      | cons r rs ih =>
        intro nd h
        obtain ⟨n1, n2⟩ := List.nodup_cons.mp nd
        rw [List.flatMap_cons]
        refine List.nodup_append.mpr ⟨w_nd ho (h r List.mem_cons_self), ih n2 fun x hx => h x (List.mem_cons_of_mem _ hx), fun x hx y hy e => ?_⟩
        subst e
        obtain ⟨r2, hr2, hy⟩ := List.mem_flatMap.mp hy
        have a1 := ((fu_mem ho (h r List.mem_cons_self)).mp ((w_thin ho (h r List.mem_cons_self)).sub x hx)).2.1
        have a2 := ((fu_mem ho (h r2 (List.mem_cons_of_mem _ hr2))).mp ((w_thin ho (h r2 (List.mem_cons_of_mem _ hr2))).sub x hy)).2.1
        exact n1 (by rw [← a1, a2]; exact hr2)
    refine List.nodup_append.mpr ⟨?_, fl _ (List.nodup_range.filter _) fun r hr => by have := rlt r hr; omega, fun x hx y hy e => ?_⟩
    · exact nodup_map_of (fun a _ c _ e => List.append_cancel_left e) (w_nd ho ht)
    · subst e
      obtain ⟨q, hq, rfl⟩ := List.mem_map.mp hx
      obtain ⟨r, hr, hy⟩ := List.mem_flatMap.mp hy
      have hr2 := rlt r hr
      have a1 := ((fu_mem ho (by omega)).mp ((w_thin ho (by omega)).sub _ hy)).2.1
      obtain ⟨q1, q2, _⟩ := (fu_mem ho ht).mp ((w_thin ho ht).sub q hq)
      have le := vw_le ho hv
      have hh : hdn (w.dropLast ++ q) = hdn w := by
        cases hd : w.dropLast with
        | nil =>
          rw [hd] at sp
          rw [List.nil_append, q2]
          conv => rhs; rw [sp]
          rfl
        | cons a u =>
          rw [hd] at sp
          conv => rhs; rw [sp]
          rfl
      omega
end
end Tw

set_option maxHeartbeats 2000000
namespace Tw
open PySem
def lkF (st : Int) (row : List Int) (k : Nat) : Option Lnk :=
  if st = 0 then lkOf row k else if st = 1 then (if 1 ≤ row.getD k 0 then some (k, decide (row.getD k 0 = 1)) else none) else some (k, false)
theorem lkF_fst {st : Int} {row : List Int} {k : Nat} {l : Lnk} (h : lkF st row k = some l) : l.1 = k := by
  unfold lkF lkOf at h
  split at h
  · split at h
    · cases h; rfl
    · cases h
  · split at h
    · split at h
      · cases h; rfl
      · cases h
    · cases h; rfl
theorem lkF_sub {st : Int} {row : List Int} : ∀ ks : List Nat, ((ks.filterMap (lkF st row)).map Prod.fst).Sublist ks
  | [] => List.Sublist.slnil
  | k :: ks => by
    rw [List.filterMap_cons]
    cases h : lkF st row k with
    | none => exact (lkF_sub ks).cons _
    | some l =>
      rw [← lkF_fst h]
      exact (lkF_sub ks).cons_cons _
section
variable {a0 a1 a2 a3 a5 a6 a7 a11 a12 a13 : Option Slot} {row : List Int} {st : Int}
theorem dense_in1 {k : Nat} {acc : List Lnk} (hs : st = 0 ∨ st = 1 ∨ st = 2) (h1 : k < row.length) (h2 : st = 0 → row.getD k 0 < 4) (hl : acc.length < 100000) :
    b_law_dense_1 [a0, a1, a2, a3, some (.val (.int st)), a5, a6, a7, some (.val (.lst (row.map .int))), some (.own (.lst (acc.map lkD))), some (.val (.int k)), a11, a12, a13] =
      .ok (.nx [a0, a1, a2, a3, some (.val (.int st)), a5, a6, a7, some (.val (.lst (row.map .int))), some (.own (.lst ((acc ++ (lkF st row k).toList).map lkD))), some (.val (.int k)), a11, a12, a13]) := by
  have hx := mapG (f := D.int) (getD_some h1)
  have la : (acc.map lkD).length < 1000000 := by rw [List.length_map]; omega
  have la2 : acc.length < 1000000 := by omega
  generalize hv : row.getD k 0 = v at hx h2
  have fin : ∀ l : Lnk, acc.map lkD ++ [lkD l] = (acc ++ [l]).map lkD := fun l => by rw [List.map_append]; rfl
  have nil : (acc ++ ([] : List Lnk)).map lkD = acc.map lkD := by rw [List.append_nil]
  unfold b_law_dense_1
  rcases hs with hs | hs | hs
  · have c0 : decide (st = 0) = true := decide_eq_true hs
    have c1 : decide (st = 1) = false := decide_eq_false (by omega)
    have c2 : decide (st = 2) = false := decide_eq_false (by omega)
    by_cases h : 2 ≤ v
    · have e : lkF st row k = some (k, decide (v = 3)) := by unfold lkF lkOf; rw [if_pos hs, hv, if_pos h]
      have e2 : v - 2 = bI (decide (v = 3)) := by
        have := h2 hs
        unfold bI
        by_cases h3 : v = 3
        · rw [decide_eq_true h3, if_pos rfl]; omega
        · rw [decide_eq_false h3, if_neg (by decide)]; omega
      rw [e]
      simp -implicitDefEqProofs (disch := (first | assumption | omega | (simp only [ngs]; done) | decide)) only [ev, R.bind_ok, R.bind_ex, R.st_ok, R.st_ex, R.of_some, List.length_map, c0, c1, c2, hx, decide_eq_true h, e2]
      rw [Option.toList_some, ← fin]
      rfl
    · have e : lkF st row k = none := by unfold lkF lkOf; rw [if_pos hs, hv, if_neg h]
      rw [e]
      simp -implicitDefEqProofs (disch := (first | assumption | omega | (simp only [ngs]; done) | decide)) only [ev, R.bind_ok, R.bind_ex, R.st_ok, R.st_ex, R.of_some, List.length_map, c0, c1, c2, hx, decide_eq_false h]
      rw [Option.toList_none, nil]
  · have c0 : decide (st = 0) = false := decide_eq_false (by omega)
    have c1 : decide (st = 1) = true := decide_eq_true hs
    have c2 : decide (st = 2) = false := decide_eq_false (by omega)
    by_cases h : 1 ≤ v
    · have e : lkF st row k = some (k, decide (v = 1)) := by unfold lkF; rw [if_neg (by omega), if_pos hs, hv, if_pos h]
      rw [e]
      have bi : ∀ b : Bool, oInt (.bl b) = some (.int (bI b)) := fun b => rfl
      simp -implicitDefEqProofs (disch := (first | assumption | omega | (simp only [ngs]; done) | decide)) only [ev, R.bind_ok, R.bind_ex, R.st_ok, R.st_ex, R.of_some, List.length_map, c0, c1, c2, hx, decide_eq_true h, ↓bi]
      rw [Option.toList_some, ← fin]
      rfl
    · have e : lkF st row k = none := by unfold lkF; rw [if_neg (by omega), if_pos hs, hv, if_neg h]
      rw [e]
      simp -implicitDefEqProofs (disch := (first | assumption | omega | (simp only [ngs]; done) | decide)) only [ev, R.bind_ok, R.bind_ex, R.st_ok, R.st_ex, R.of_some, List.length_map, c0, c1, c2, hx, decide_eq_false h]
      rw [Option.toList_none, nil]
  · have c0 : decide (st = 0) = false := decide_eq_false (by omega)
    have c1 : decide (st = 1) = false := decide_eq_false (by omega)
    have c2 : decide (st = 2) = true := decide_eq_true hs
    have e : lkF st row k = some (k, false) := by unfold lkF; rw [if_neg (by omega), if_neg (by omega)]
    rw [e]
    simp -implicitDefEqProofs (disch := (first | assumption | omega | (simp only [ngs]; done) | decide)) only [ev, R.bind_ok, R.bind_ex, R.st_ok, R.st_ex, R.of_some, List.length_map, c0, c1, c2]
    rw [Option.toList_some, ← fin]
    rfl
theorem dense_loop1 (hs : st = 0 ∨ st = 1 ∨ st = 2) : ∀ (ks : List Nat) (acc : List Lnk), (∀ k ∈ ks, k < row.length ∧ (st = 0 → row.getD k 0 < 4)) → acc.length + ks.length < 100000 →
    forL (gVar 10) [10] b_law_dense_1 (ks.map fun k : Nat => D.int k) [a0, a1, a2, a3, some (.val (.int st)), a5, a6, a7, some (.val (.lst (row.map .int))), some (.own (.lst (acc.map lkD))), none, a11, a12, a13] =
      .ok (.nx [a0, a1, a2, a3, some (.val (.int st)), a5, a6, a7, some (.val (.lst (row.map .int))), some (.own (.lst ((acc ++ ks.filterMap (lkF st row)).map lkD))), none, a11, a12, a13])
  | [], acc, _, _ => by rw [List.filterMap_nil, List.append_nil, List.map_nil, f_n]
  | k :: ks, acc, h, hl => by
    simp only [List.length_cons] at hl
    obtain ⟨h1, h2⟩ := h k List.mem_cons_self
    have st1 := fun a0 a1 a2 a3 a5 a6 a7 a11 a12 a13 => dense_in1 (a0 := a0) (a1 := a1) (a2 := a2) (a3 := a3) (a5 := a5) (a6 := a6) (a7 := a7) (a11 := a11) (a12 := a12) (a13 := a13) (row := row) (acc := acc) hs h1 h2 (by omega)
    have le : ((lkF st row k).toList).length ≤ 1 := by cases lkF st row k <;> simp
    have ih := dense_loop1 hs ks (acc ++ (lkF st row k).toList) (fun x hx => h x (List.mem_cons_of_mem _ hx)) (by rw [List.length_append]; omega)
    rw [List.map_cons, f_c]
    simp -implicitDefEqProofs (disch := (first | assumption | omega | (simp only [ngs]; done) | decide)) only [ev, R.bind_ok, R.bind_ex, R.st_ok, R.st_ex, R.of_some, List.length_map, st1, ih]
    have e : (k :: ks).filterMap (lkF st row) = (lkF st row k).toList ++ ks.filterMap (lkF st row) := by
      rw [List.filterMap_cons]
      cases lkF st row k <;> rfl
    rw [e, List.append_assoc]
end
/-- all the earlier classes, own -/
def AllOwn (P : List Pn) : Prop := ∀ j, j < P.length → lks P j = (List.range j).map fun k => (k, false)
theorem dense_step (ns : List Int) (at' j : Nat) (sz : D) (st : Int) (hs : st = 0 ∨ st = 1 ∨ st = 2) (l5 : List D) (ha : at' ≤ 1000) (hj : j ≤ 1000) (h5 : l5.length < 1000000) :
    ∃ (p : Pn) (x7 x8 x9 x11 : D), PnOk j 0 p ∧ (st = 2 → p.ls = (List.range j).map fun k => (k, false)) ∧
      b_law_dense_3 [some (.val (.scr ns)), some (.val (.int at')), some (.val sz), some (.val (.int 0)), some (.val (.int st)), some (.own (.lst l5)), some (.val (.int j)), none, none, none, none, none, none, none] =
      .ok (.nx [some (.val (.scr ns)), some (.val (.int at')), some (.val sz), some (.val (.int 0)), some (.val (.int st)), some (.own (.lst (l5 ++ [pnD p]))), some (.val (.int j)), some (.val x7), some (.val x8), some (.val x9), none, some (.val x11), none, none]) := by
  obtain ⟨c, hc⟩ := law_cell_ok ns ((at' : Int) + j) (by omega)
  obtain ⟨lim, hlm, hlp, hl4⟩ : ∃ lim : Int, atD [D.int 4, D.int 16, D.int 1] st = some (.int lim) ∧ (0 < lim ∧ lim < 100) ∧ (st = 0 → lim = 4) := by
    rcases hs with rfl | rfl | rfl
    · exact ⟨4, rfl, by decide, fun _ => rfl⟩
    · exact ⟨16, rfl, by decide, fun h => by cases h⟩
    · exact ⟨1, rfl, by decide, fun h => by cases h⟩
  have e4 := mul_lst (x := lim) hj
  obtain ⟨row, hrow, hlen, hB⟩ := law_row_ok c ((at' : Int) + j) (List.replicate j lim) (fun l hl => by rw [(List.mem_replicate.mp hl).2]; omega) (by simp; omega)
  rw [List.length_replicate] at hlen
  have b4 : ∀ k, k < j → st = 0 → row.getD k 0 < 4 := fun k hk h0 => by
    have := (hB k _ lim (getD_some (by omega)) (by rw [List.getElem?_replicate, if_pos hk])).2
    have := hl4 h0
    omega
  have l41 : ((List.replicate j lim).map D.int).length = j := by simp
  have lp := fun a0 a1 a2 a3 a5 a6 a7 => dense_loop1 (a0 := a0) (a1 := a1) (a2 := a2) (a3 := a3) (a5 := a5) (a6 := a6) (a7 := a7) (a11 := none) (a12 := none) (a13 := none) (row := row) hs (List.range j) [] (fun k hk => by
    have := List.mem_range.mp hk
    exact ⟨by omega, b4 k this⟩) (by simp; omega)
  simp only [List.map_nil, List.nil_append] at lp
  have hsub := lkF_sub (st := st) (row := row) (List.range j)
  have h2 : st = 2 → (List.range j).filterMap (lkF st row) = (List.range j).map fun k => (k, false) := fun h => by
    have : lkF st row = fun k => some (k, false) := by
      funext k; unfold lkF; rw [if_neg (by omega), if_neg (by omega)]
    rw [this]
    exact congrFun List.filterMap_eq_map' _
  generalize (List.range j).filterMap (lkF st row) = l0 at lp hsub h2
  have j9 : j < 1000000000 := by omega
  have ok : PnOk j 0 ⟨l0, []⟩ := ⟨fun l hl => List.mem_range.mp (hsub.subset (List.mem_map.mpr ⟨l, hl, rfl⟩)), hsub.nodup List.nodup_range, rfl, fun x hx => by cases hx⟩
  have e5 : ∀ sp : Int, oMul (.lst [.int sp]) (.int 0) = some (.lst []) := fun sp => mul_lst (x := sp) (j := 0) (by decide)
  have rg0 : rngR (.int 0) = .ok [] := rg_n (k := 0) (by decide)
  have ad : oAdd (.lst ((List.replicate j lim).map D.int)) (.lst []) = some (.lst ((List.replicate j lim).map D.int)) := by
    rw [p_addl (by rw [List.length_nil]; omega), List.append_nil]
  have mk : ∀ (sp : Int) a5 b8 b9, e2 oAdd (e2 oMul (eLst (aCons (e2 oIx (eLst (aCons (eC (.int 4)) (aCons (eC (.int 16)) (aCons (eC (.int 1)) (aNil))))) (eVar 4)) (aNil))) (eVar 6)) (e2 oMul (eLst (aCons (eVar 7) (aNil))) (eVar 3)) [some (.val (.scr ns)), some (.val (.int at')), some (.val sz), some (.val (.int 0)), some (.val (.int st)), a5, some (.val (.int j)), some (.val (.int sp)), b8, b9, none, none, none, none] = .ok (.lst ((List.replicate j lim).map D.int)) := by
    intro sp a5 b8 b9
    refine e2_ok (x := .lst ((List.replicate j lim).map D.int)) (y := .lst []) (e2_ok (x := .lst [.int lim]) (y := .int j) ?_ rfl e4) (e2_ok (x := .lst [.int sp]) (y := .int 0) ?_ rfl (e5 sp)) ad
    · simp -implicitDefEqProofs (disch := (first | assumption | omega | (simp only [ngs]; done) | decide)) only [ev, R.bind_ok, R.bind_ex, R.st_ok, R.st_ex, R.of_some, List.length_map, hlm]
    · simp -implicitDefEqProofs (disch := (first | assumption | omega | (simp only [ngs]; done) | decide)) only [ev, R.bind_ok, R.bind_ex, R.st_ok, R.st_ex, R.of_some, List.length_map]
  have rest : ∀ sp : Int, ∃ (x8 x9 x11 : D), (sSeq (sSet 8 (eCall d_law_row (aCons (eCall d_law_cell (aCons (eVar 0) (aCons (e2 oAdd (eVar 1) (eVar 6)) (aNil)))) (aCons (e2 oAdd (eVar 1) (eVar 6)) (aCons (e2 oAdd (e2 oMul (eLst (aCons (e2 oIx (eLst (aCons (eC (.int 4)) (aCons (eC (.int 16)) (aCons (eC (.int 1)) (aNil))))) (eVar 4)) (aNil))) (eVar 6)) (e2 oMul (eLst (aCons (eVar 7) (aNil))) (eVar 3))) (aNil)))))) (sSeq (sOwn 9 (eLst (aNil))) (sSeq (sFor (iRange (eVar 6)) (gVar 10) [10] b_law_dense_1) (sSeq (sOwn 11 (eLst (aNil))) (sSeq (sFor (iRange (eVar 3)) (gVar 12) [12, 13] b_law_dense_2) (sFrz [9, 11] (sApp 5 (eLst (aCons (eVar 9) (aCons (eVar 11) (aNil)))))))))))
      [some (.val (.scr ns)), some (.val (.int at')), some (.val sz), some (.val (.int 0)), some (.val (.int st)), some (.own (.lst l5)), some (.val (.int j)), some (.val (.int sp)), none, none, none, none, none, none] =
      .ok (.nx [some (.val (.scr ns)), some (.val (.int at')), some (.val sz), some (.val (.int 0)), some (.val (.int st)), some (.own (.lst (l5 ++ [pnD ⟨l0, []⟩]))), some (.val (.int j)), some (.val (.int sp)), some (.val x8), some (.val x9), none, some (.val x11), none, none]) := by
    intro sp
    refine ⟨.lst (row.map .int), .lst (l0.map lkD), .lst [], ?_⟩
    simp -implicitDefEqProofs (disch := (first | assumption | omega | (simp only [ngs]; done) | decide)) only [ev, R.bind_ok, R.bind_ex, R.st_ok, R.st_ex, R.of_some, List.length_map, ↓mk, hc, hrow, lp, rg0]
    rfl
  by_cases hc1 : 0 < st
  · by_cases hc2 : 1 < (j : Int)
    · obtain ⟨x8, x9, x11, r⟩ := rest 20
      refine ⟨⟨l0, []⟩, .int 20, x8, x9, x11, ok, h2, ?_⟩
      unfold b_law_dense_3
      rw [q_seq]
      simp -implicitDefEqProofs (disch := (first | assumption | omega | (simp only [ngs]; done) | decide)) only [ev, R.bind_ok, R.bind_ex, R.st_ok, R.st_ex, R.of_some, List.length_map, decide_eq_true hc1, decide_eq_true hc2, ↓r]
    · obtain ⟨x8, x9, x11, r⟩ := rest 5
      refine ⟨⟨l0, []⟩, .int 5, x8, x9, x11, ok, h2, ?_⟩
      unfold b_law_dense_3
      rw [q_seq]
      simp -implicitDefEqProofs (disch := (first | assumption | omega | (simp only [ngs]; done) | decide)) only [ev, R.bind_ok, R.bind_ex, R.st_ok, R.st_ex, R.of_some, List.length_map, decide_eq_true hc1, decide_eq_false hc2, ↓r]
  · obtain ⟨x8, x9, x11, r⟩ := rest 5
    refine ⟨⟨l0, []⟩, .int 5, x8, x9, x11, ok, h2, ?_⟩
    unfold b_law_dense_3
    rw [q_seq]
    simp -implicitDefEqProofs (disch := (first | assumption | omega | (simp only [ngs]; done) | decide)) only [ev, R.bind_ok, R.bind_ex, R.st_ok, R.st_ex, R.of_some, List.length_map, decide_eq_false hc1, ↓r]
theorem dense_loop (ns : List Int) (at' : Nat) (sz : D) (st : Int) (hs : st = 0 ∨ st = 1 ∨ st = 2) (ha : at' ≤ 1000) : ∀ (n : Nat) (P : List Pn), P.length + n ≤ 1000 → PlanOk 0 P → (st = 2 → AllOwn P) →
    ∃ P' : List Pn, P'.length = P.length + n ∧ PlanOk 0 P' ∧ (st = 2 → AllOwn P') ∧ forL (gVar 6) [6, 7, 8, 9, 10, 11, 12, 13] b_law_dense_3 ((List.range' P.length n).map fun i : Nat => .int i) [some (.val (.scr ns)), some (.val (.int at')), some (.val sz), some (.val (.int 0)), some (.val (.int st)), some (.own (plnD P)), none, none, none, none, none, none, none, none] =
      .ok (.nx [some (.val (.scr ns)), some (.val (.int at')), some (.val sz), some (.val (.int 0)), some (.val (.int st)), some (.own (plnD P')), none, none, none, none, none, none, none, none])
  | 0, P, _, h, ha => ⟨P, rfl, h, ha, by rw [List.range'_zero, List.map_nil, f_n]⟩
  | n + 1, P, hl, h, hA => by
    obtain ⟨p, x7, x8, x9, x11, hp, h2, st1⟩ := dense_step ns at' P.length sz st hs (P.map pnD) ha (by omega) (by rw [List.length_map]; omega)
    have hA' : st = 2 → AllOwn (P ++ [p]) := fun e j hj => by
      rw [List.length_append, List.length_singleton] at hj
      unfold lks
      by_cases hjP : j < P.length
      · rw [List.getElem?_append_left hjP]
        exact hA e j hjP
      · have : j = P.length := by omega
        subst this
        rw [List.getElem?_append_right (Nat.le_refl _), Nat.sub_self]
        exact h2 e
    obtain ⟨P', h1, h3, h4, h5⟩ := dense_loop ns at' sz st hs ha n (P ++ [p]) (by rw [List.length_append, List.length_singleton]; omega) (h.snoc hp) hA'
    rw [List.length_append, List.length_singleton] at h1 h5
    refine ⟨P', by omega, h3, h4, ?_⟩
    rw [List.range'_succ, List.map_cons, f_c]
    have pe : P.map pnD ++ [pnD p] = (P ++ [p]).map pnD := by rw [List.map_append]; rfl
    unfold plnD at h5 ⊢
    simp -implicitDefEqProofs (disch := (first | assumption | omega | (simp only [ngs]; done) | decide)) only [ev, R.bind_ok, R.bind_ex, R.st_ok, R.st_ex, R.of_some, List.length_map, st1, pe, h5]
theorem law_dense_ok (ns : List Int) (at' n : Nat) (st : Int) (hs : st = 0 ∨ st = 1 ∨ st = 2) (ha : at' ≤ 1000) (hn : n ≤ 1000) :
    ∃ P : List Pn, P.length = n ∧ PlanOk 0 P ∧ (st = 2 → AllOwn P) ∧ d_law_dense [.scr ns, .int at', .int n, .int 0, .int st] = .ok (plnD P) := by
  obtain ⟨P, h1, h2, hA, h3⟩ := dense_loop ns at' (.int n) st hs ha n [] (by simpa using hn) PlanOk.nil (fun _ j h => by simp at h)
  refine ⟨P, by simpa using h1, h2, hA, ?_⟩
  rw [e_law_dense]
  unfold b_law_dense
  have n9 : n < 1000000000 := by omega
  rw [List.length_nil, ← List.range_eq_range', show plnD [] = D.lst [] from rfl] at h3
  simp -implicitDefEqProofs (disch := (first | assumption | omega | (simp only [ngs]; done) | decide)) only [ev, R.bind_ok, R.bind_ex, R.st_ok, R.st_ex, R.of_some, List.length_map, h3]
theorem bI_1 (b : Bool) : decide (bI b = 1) = b := by cases b <;> decide
theorem draftsD_step {ws : List Wd} {P : List Pn} {j : Nat} {p : Pn} {l3 : List D} (hw : Wds ws) (hj : j < ws.length) (hp : P[j]? = some p) (ho : PnOk j 0 p) (h3 : l3.length < 1000000) :
    b_law_draftsD_1 [some (.val (.lst (P.map pnD))), some (.val (.lst (stL ws))), some (.val (.lst [])), some (.own (.lst l3)), some (.val (.int j)), none, none, none, none, none] =
      .ok (.nx [some (.val (.lst (P.map pnD))), some (.val (.lst (stL ws))), some (.val (.lst [])), some (.own (.lst (l3 ++ [drD (prDr ws [] j p)]))), some (.val (.int j)), some (.val (.lst [])), some (.val (.lst [])), some (.val (.lst ((prDr ws [] j p).bs.map bD))), none, none]) := by
  have hok := prDr_ok hw Wds.nil hj ho
  have h4 := hw.l
  have pl := ho.len
  have mk := mkdr_ok (nd := .lst []) (sd := .lst []) (bd := .lst ((prDr ws [] j p).bs.map bD)) hok (.inl rfl) (.inl rfl) (.inl rfl)
  have mk : mkD "Draft" d_Draft_init [.str (S (ws.getD j [])), .lst [], .lst [], .lst ((prDr ws [] j p).bs.map bD)] = .ok (drD (prDr ws [] j p)) := mk
  have x1 := mapG (f := pnD) hp
  have x2 := stL_at hj
  have it : iterD (.lst (p.ls.map lkD)) = some (p.ls.map lkD) := rfl
  have rg0 : rngR (.int (([] : List D).length : Nat)) = .ok [] := rg_n (k := 0) (by decide)
  have cm : ∀ a2 a3 a5 a6 a7, compS (gVar 9) tYesD (eCall (mkD "Base" d_Base_init) (aCons (e2 oIx (eVar 1) (e2 oIx (eVar 9) (eC (.int 0)))) (aCons (e2 oEq (e2 oIx (eVar 9) (eC (.int 1))) (eC (.int 1))) (aNil)))) [9] [some (.val (.lst (P.map pnD))), some (.val (.lst (stL ws))), a2, a3, some (.val (.int j)), a5, a6, a7, none, none] (p.ls.map lkD) = .ok (.lst ((prDr ws [] j p).bs.map bD)) := by
    intro a2 a3 a5 a6 a7
    rw [comp_map lkD (fun l => bD (ws.getD l.1 [], l.2)) (by omega) rfl (fun l hl => by
      have := ho.lt l hl
      have x := stL_at (ws := ws) (k := l.1) (by omega)
      have mb := mkbase_ok (b := l.2) (hw.w _ (wmem (ws := ws) (k := l.1) (by omega)))
      unfold cStep
      simp -implicitDefEqProofs (disch := (first | assumption | omega | (simp only [ngs]; done) | decide)) only [ev, R.bind_ok, R.bind_ex, R.st_ok, R.st_ex, R.of_some, List.length_map, lk_0, lk_1, x, bI_1, mb, if_true])]
    show _ = R.ok (D.lst ((p.ls.map fun l => (ws.getD l.1 [], l.2)).map bD))
    rw [List.map_map]
    rfl
  have c0 : ∀ (a : DT) (e : DE) a3 a5 a6 a7, compS (gVar 8) a e [8] [some (.val (.lst (P.map pnD))), some (.val (.lst (stL ws))), some (.val (.lst [])), a3, some (.val (.int j)), a5, a6, a7, none, none] [] = .ok (.lst []) := fun a e a3 a5 a6 a7 => by
    unfold compS
    rw [if_pos ⟨Nat.zero_le _, rfl⟩]
    rfl
  unfold b_law_draftsD_1
  simp -implicitDefEqProofs (disch := (first | assumption | omega | (simp only [ngs]; done) | decide)) only [ev, R.bind_ok, R.bind_ex, R.st_ok, R.st_ex, R.of_some, List.length_map, rg0, c0, x1, x2, pn_0, it, cm, mk]
theorem draftsD_loop {ws : List Wd} {P0 : List Pn} (hw : Wds ws) (hl : P0.length ≤ ws.length) (ho : PlanOk 0 P0) : ∀ (P Q : List Pn) (l3 : List D), P0 = Q ++ P → l3.length = Q.length →
    forL (gVar 4) [4, 5, 6, 7] b_law_draftsD_1 ((List.range' Q.length P.length).map fun i : Nat => .int i) [some (.val (.lst (P0.map pnD))), some (.val (.lst (stL ws))), some (.val (.lst [])), some (.own (.lst l3)), none, none, none, none, none, none] =
      .ok (.nx [some (.val (.lst (P0.map pnD))), some (.val (.lst (stL ws))), some (.val (.lst [])), some (.own (.lst (l3 ++ (drsOf ws [] Q.length P).map drD))), none, none, none, none, none, none])
  | [], Q, l3, _, _ => by
    rw [List.length_nil, List.range'_zero, List.map_nil, f_n]
    unfold drsOf
    rw [List.map_nil, List.append_nil]
  | p :: P, Q, l3, e, e3 => by
    have hp : P0[Q.length]? = some p := by rw [e, List.getElem?_append_right (Nat.le_refl _), Nat.sub_self]; rfl
    have hj : Q.length < P0.length := by rw [e, List.length_append, List.length_cons]; omega
    have h4 := hw.l
    have st := draftsD_step (l3 := l3) hw (j := Q.length) (by omega) hp (ho _ _ hp) (by omega)
    have ih := draftsD_loop hw hl ho P (Q ++ [p]) (l3 ++ [drD (prDr ws [] Q.length p)]) (by rw [e, List.append_assoc]; rfl) (by rw [List.length_append, List.length_append, e3]; rfl)
    rw [List.length_append, List.length_singleton] at ih
    rw [List.length_cons, List.range'_succ, List.map_cons, f_c]
    simp -implicitDefEqProofs (disch := (first | assumption | omega | (simp only [ngs]; done) | decide)) only [ev, R.bind_ok, R.bind_ex, R.st_ok, R.st_ex, R.of_some, List.length_map, st, ih]
    rw [drsOf, List.map_cons, List.append_assoc]
    rfl
theorem law_draftsD_ok {ws : List Wd} {P : List Pn} (hw : Wds ws) (hl : P.length ≤ ws.length) (ho : PlanOk 0 P) :
    d_law_draftsD [plnD P, .lst (stL ws), .lst []] = .ok (.lst ((drsOf ws [] 0 P).map drD)) := by
  have lp := draftsD_loop hw hl ho P [] [] rfl rfl
  rw [List.length_nil, List.nil_append, ← List.range_eq_range'] at lp
  have h4 := hw.l
  have l9 : P.length < 1000000000 := by omega
  rw [e_law_draftsD]
  unfold b_law_draftsD plnD
  simp -implicitDefEqProofs (disch := (first | assumption | omega | (simp only [ngs]; done) | decide)) only [ev, R.bind_ok, R.bind_ex, R.st_ok, R.st_ex, R.of_some, List.length_map, lp]
end Tw

set_option maxHeartbeats 2000000
namespace Tw
open PySem
theorem shp_lks (k : Nat) : ∀ ls : List Lnk, (ls.map lkD).all (shp (k + 1)) = true
  | [] => rfl
  | l :: ls => by
    have : shp (k + 1) (lkD l) = true := by
      show ((shp k (.int l.1)) && ((shp k (.int (bI l.2))) && true)) = true
      cases k <;> rfl
    show (shp (k + 1) (lkD l) && (ls.map lkD).all (shp (k + 1))) = true
    rw [shp_lks k ls, this]; rfl
theorem eq_nil (ls : List Lnk) : oEq (.lst (ls.map lkD)) (.lst []) = some (.bl (decide (ls = []))) := by
  have h1 : shp 60 (.lst (ls.map lkD)) = true := shp_lks 58 ls
  have h2 : shp 60 (.lst []) = true := rfl
  unfold oEq eqD
  rw [if_neg (show ¬ scalD (.lst (ls.map lkD)) (.lst []) = true from Bool.false_ne_true), h1, h2]
  cases ls with
  | nil => rfl
  | cons l ls => rfl
section
variable {P : List Pn} {m n : Nat}
theorem walk_step {w : List Nat} {l2 : D} {x : Int} (hv : Vw P n w) (hP : P.length = n) (hw : w.length ≤ 1000) :
    (∃ x4, b_law_walk_1 [some (.val (plnD P)), some (.val (tuN w)), some (.val l2), some (.val (.int x)), none, none] = .ok (.bk [some (.val (plnD P)), some (.val (tuN w)), some (.val l2), some (.val (.int x)), some (.val x4), none])) ∨
    (∃ l x4 x5, l ∈ lks P (lst w) ∧ b_law_walk_1 [some (.val (plnD P)), some (.val (tuN w)), some (.val l2), some (.val (.int x)), none, none] = .ok (.nx [some (.val (plnD P)), some (.val (tuN (stp w l))), some (.val l2), some (.val (.int x)), some (.val x4), some (.val x5)])) := by
  obtain ⟨hl1, hl2⟩ := hv.last
  have hp : P[lst w]? = some P[lst w] := List.getElem?_eq_getElem (by omega)
  generalize P[lst w]'(by omega) = p at hp
  have hk := lks_get hp
  have x2 := mapG (f := pnD) hp
  have x3 : oIx (tuN w) (.int (-1)) = some (.int (lst w)) := by
    unfold tuN
    rw [p_ixt, p_at1]
    unfold niL
    rw [List.getLast?_map, hl2]; rfl
  by_cases he : p.ls = []
  · left
    refine ⟨.lst (p.ls.map lkD), ?_⟩
    have en := eq_nil p.ls
    rw [decide_eq_true he] at en
    unfold b_law_walk_1 plnD
    simp -implicitDefEqProofs (disch := (first | assumption | omega | (simp only [ngs]; done) | decide)) only [ev, R.bind_ok, R.bind_ex, R.st_ok, R.st_ex, R.of_some, List.length_map, x3, x2, pn_0, en]
  · right
    have en := eq_nil p.ls
    rw [decide_eq_false he] at en
    have hlen : 0 < p.ls.length := List.length_pos_iff.mpr he
    have q1 := Int.emod_nonneg x (show (p.ls.length : Int) ≠ 0 by omega)
    have q2 := Int.emod_lt_of_pos x (show (0 : Int) < p.ls.length by omega)
    obtain ⟨k, hk1, hk2⟩ : ∃ k : Nat, x % (p.ls.length : Int) = k ∧ k < p.ls.length := ⟨(x % (p.ls.length : Int)).toNat, by omega, by omega⟩
    have hg := List.getElem?_eq_getElem hk2
    have hm : p.ls[k] ∈ p.ls := List.getElem_mem hk2
    generalize p.ls[k] = l at hg hm
    have lx := mapG (f := lkD) hg
    have mo : oMod (.int x) (.int p.ls.length) = some (.int (x % p.ls.length)) := p_mod (by omega)
    have ix : oIx (.lst (p.ls.map lkD)) (.int (x % p.ls.length)) = some (lkD l) := by
      rw [p_ixl, hk1, p_atn, lx]
    have ln : oLen (.lst (p.ls.map lkD)) = some (.int p.ls.length) := by rw [p_lenl, List.length_map]
    have es : D.tup [.int l.1] = tuN [l.1] := rfl
    have ad : oAdd (tuN w) (tuN [l.1]) = some (tuN (w ++ [l.1])) := by
      have e1 : niL w ++ niL [l.1] = niL (w ++ [l.1]) := (niL_app _ _).symm
      unfold tuN
      rw [p_addt (by rw [niL_len, niL_len]; simp; omega), e1]
    refine ⟨l, .lst (p.ls.map lkD), lkD l, by rw [hk]; exact hm, ?_⟩
    unfold b_law_walk_1 plnD
    cases h2 : l.2 with
    | true =>
      have c : decide (bI l.2 = 1) = true := by rw [h2]; decide
      have hs : stp w l = [l.1] := by unfold stp; rw [h2]; rfl
      rw [hs]
      simp -implicitDefEqProofs (disch := (first | assumption | omega | (simp only [ngs]; done) | decide)) only [ev, R.bind_ok, R.bind_ex, R.st_ok, R.st_ex, R.of_some, List.length_map, ↓ix, ↓ln, x3, x2, pn_0, en, ↓mo, lk_0, lk_1, c, es]
    | false =>
      have c : decide (bI l.2 = 1) = false := by rw [h2]; decide
      have hs : stp w l = w ++ [l.1] := by unfold stp; rw [h2]; rfl
      rw [hs]
      simp -implicitDefEqProofs (disch := (first | assumption | omega | (simp only [ngs]; done) | decide)) only [ev, R.bind_ok, R.bind_ex, R.st_ok, R.st_ex, R.of_some, List.length_map, ↓ix, ↓ln, x3, x2, pn_0, en, ↓mo, lk_0, lk_1, c, es, ad]
theorem walk_loop (ho : PlanOk m P) (hP : P.length = n) (hn : n ≤ 62) {l2 : D} {w0 : List Nat} (h0 : Vw P n w0) : ∀ (xs : List Int) (w : List Nat), Rch P w0 w →
    ∃ (w' : List Nat) (o3 o4 o5 : Option Slot), Rch P w0 w' ∧ forL (gVar 3) [3, 4, 5] b_law_walk_1 (xs.map D.int) [some (.val (plnD P)), some (.val (tuN w)), some (.val l2), none, none, none] = .ok (.nx [some (.val (plnD P)), some (.val (tuN w')), some (.val l2), o3, o4, o5])
  | [], w, hr => ⟨w, none, none, none, hr, by rw [List.map_nil, f_n]⟩
  | x :: xs, w, hr => by
    have hv := hr.vw ho h0
    have hl := (hv.all (lb := List.replicate m []) (by rw [List.length_replicate]; exact ho)).2
    rw [List.map_cons, f_c]
    rcases walk_step (l2 := l2) (x := x) hv hP (by omega) with ⟨x4, st⟩ | ⟨l, x4, x5, hl, st⟩
    · refine ⟨w, some (.val (.int x)), some (.val x4), none, hr, ?_⟩
      simp -implicitDefEqProofs (disch := (first | assumption | omega | (simp only [ngs]; done) | decide)) only [ev, R.bind_ok, R.bind_ex, R.st_ok, R.st_ex, R.of_some, List.length_map, st]
    · obtain ⟨w', o3, o4, o5, h1, h2⟩ := walk_loop ho hP hn (l2 := l2) h0 xs (stp w l) (.step hr hl)
      refine ⟨w', o3, o4, o5, h1, ?_⟩
      simp -implicitDefEqProofs (disch := (first | assumption | omega | (simp only [ngs]; done) | decide)) only [ev, R.bind_ok, R.bind_ex, R.st_ok, R.st_ex, R.of_some, List.length_map, st, h2]
theorem law_walk_ok (ho : PlanOk m P) (hP : P.length = n) (hn : n ≤ 62) {w : List Nat} (hv : Vw P n w) (xs : List Int) : ∃ w', Rch P w w' ∧ d_law_walk [plnD P, tuN w, .lst (xs.map D.int)] = .ok (tuN w') := by
  obtain ⟨w', o3, o4, o5, h1, h2⟩ := walk_loop ho hP hn (l2 := .lst (xs.map D.int)) hv xs w .refl
  refine ⟨w', h1, ?_⟩
  have it : iterD (.lst (xs.map D.int)) = some (xs.map D.int) := rfl
  rw [e_law_walk]
  unfold b_law_walk
  simp -implicitDefEqProofs (disch := (first | assumption | omega | (simp only [ngs]; done) | decide)) only [ev, R.bind_ok, R.bind_ex, R.st_ok, R.st_ex, R.of_some, List.length_map, it, h2]
end
theorem cut_map {l : List Int} {lo hi : Option Int} : oSl lo hi (.lst (l.map D.int)) = some (.lst ((cutD l lo hi).map D.int)) := by
  show some (D.lst (cutD (l.map D.int) lo hi)) = _
  unfold cutD
  rw [List.length_map, List.map_take, List.map_drop]
theorem ne_tuN (a b : List Nat) : oNe (tuN a) (tuN b) = some (.bl (!decide (a = b))) := by
  unfold oNe eqD
  rw [if_neg (show ¬ scalD (tuN a) (tuN b) = true from Bool.false_ne_true), shp_tuN 59 a, shp_tuN 59 b]
  have : deq (tuN a) (tuN b) = deqL (niL a) (niL b) := by simp [tuN, deq]
  rw [this, deqL_ni]
  rfl
section
variable {P : List Pn} {m b t : Nat} {ws nm : List Wd} {T : List (List Nat)}
theorem eq_tld {ws : List Wd} (hw : Wds ws) {a b : List Nat} (ha : ∀ k ∈ a, k < ws.length) (hb : ∀ k ∈ b, k < ws.length) : oEq (tld ws a) (tld ws b) = some (.bl (decide (a = b))) := by
  unfold oEq eqD
  rw [if_neg (show ¬ scalD (tld ws a) (tld ws b) = true from Bool.false_ne_true), shp_tld hw ha 59, shp_tld hw hb 59, deq_tld hw.nd ha hb]
  rfl
/-- how many convert finds: as many as there are, up to two -/
theorem cv_count (ho : PlanOk m P) {w : List Nat} (hv : Vw P P.length w) : (cvL P b w = [] → cc P (lst w) b = 0) ∧ (∀ f, cvL P b w = [f] → cc P (lst w) b = 1) ∧ (∀ f g C, cvL P b w = f :: g :: C → 2 ≤ cc P (lst w) b) := by
  obtain ⟨ht, _⟩ := hv.last
  obtain ⟨E, e1, e2, e3⟩ := ways_of ho ht b
  obtain ⟨s1, s2, s3⟩ := cv_spec (b := b) ho (w := [lst w]) (show Vw P P.length [lst w] from ht)
  have hl : (cvL P b w).length = (cvL P b [lst w]).length := by
    unfold cvL
    have : lst [lst w] = lst w := rfl
    rw [List.length_append, List.length_append, List.length_map, List.length_map, this]
  rw [← e3]
  have hE : ∀ q ∈ E, ∃ e ∈ cvL P b [lst w], ((∀ x ∈ cvL P b [lst w], x = e) → q = e) := fun q hq => s2 q ((e2 q).mp hq).1 ((e2 q).mp hq).2
  have hC : ∀ f ∈ cvL P b [lst w], f ∈ E := fun f hf => (e2 f).mpr (s1 f hf)
  refine ⟨fun h => ?_, fun f h => ?_, fun f g C h => ?_⟩
  · rw [h] at hl
    have h0 : cvL P b [lst w] = [] := List.length_eq_zero_iff.mp hl.symm
    have : E = [] := List.eq_nil_iff_forall_not_mem.mpr fun q hq => by
      obtain ⟨e, he, _⟩ := hE q hq
      rw [h0] at he; cases he
    rw [this]; rfl
  · rw [h] at hl
    obtain ⟨f', hf'⟩ := List.length_eq_one_iff.mp hl.symm
    have fm : f' ∈ E := hC f' (by rw [hf']; exact List.mem_cons_self)
    have all : ∀ q ∈ E, q = f' := fun q hq => by
      obtain ⟨e, he, h2⟩ := hE q hq
      rw [hf'] at he h2
      have ef := List.mem_singleton.mp he
      subst ef
      exact h2 fun x hx => List.mem_singleton.mp hx
    match E, e1, fm, all with
    | [], _, fm, _ => cases fm
    | [a], _, _, _ => rfl
    | a :: c :: l, nd, _, all =>
      have e : a = c := (all a List.mem_cons_self).trans (all c (List.mem_cons_of_mem _ List.mem_cons_self)).symm
      exact absurd (by rw [e]; exact List.mem_cons_self) (List.nodup_cons.mp nd).1
  · rw [h] at hl
    match hc : cvL P b [lst w], hl with
    | f' :: g' :: C', _ =>
      rw [hc] at s3 hC
      have ne : f' ≠ g' := fun z => (List.nodup_cons.mp s3).1 (by rw [z]; exact List.mem_cons_self)
      have m1 := hC f' List.mem_cons_self
      have m2 := hC g' (List.mem_cons_of_mem _ List.mem_cons_self)
      match E, m1, m2 with
      | [], m1, _ => cases m1
      | [a], m1, m2 => exact absurd ((List.mem_singleton.mp m1).trans (List.mem_singleton.mp m2).symm) ne
      | a :: c :: l, _, _ => simp; omega
/-- the law's question -/
noncomputable def askD (ws : List Wd) (b : Nat) : List (List Nat) → List D
  | [] => [.str "none", .str (S (ws.getD b []))]
  | [f] => [tld ws f]
  | f :: g :: _ => [tld ws f, tld ws g, .str (S (ws.getD b []))]
theorem th5 {c : String} {i : Nat} (hi : i < 5) {s : Ex → DS} {hs : List Hd} {e : Ex} {o0 o1 o2 o3 o4 : Option Slot} : tryH ((c, i, s) :: hs) e [o0, o1, o2, o3, o4] = thS (exSub e.cls c) i s hs e [o0, o1, o2, o3, o4] := th_c (by show i < 5; exact hi)
theorem asked_ok (hw : Wds ws) (ho : PlanOk ([] : List Wd).length P) (hP : P.length ≤ ws.length) (hb : b < P.length) {w : List Nat} (hv : Vw P P.length w) :
    d_law_asked [liD (clsOf ws [] P P.length) nm, tld ws w, .str (S (ws.getD b []))] = .ok (.lst (askD ws b (cvL P b w))) := by
  have cv := convert_ok (nm := nm) (lb := []) hw ho hP hb hv
  have is0 : exSub "NoCopy" "NoCopy" = true := rfl
  have ia0 : exSub "Ambiguous" "NoCopy" = false := rfl
  have ia1 : exSub "Ambiguous" "Ambiguous" = true := rfl
  have m1 : ("NoCopy" : String) ∈ ["Ambiguous", "DuplicateBase", "DuplicateClass", "DuplicateName", "InvalidWord", "NoCopy", "TwoWays", "UnknownClass"] := by decide
  have m2 : ("Ambiguous" : String) ∈ ["Ambiguous", "DuplicateBase", "DuplicateClass", "DuplicateName", "InvalidWord", "NoCopy", "TwoWays", "UnknownClass"] := by decide
  rw [e_law_asked]
  unfold b_law_asked
  generalize cvL P b w = C0 at cv ⊢
  rcases C0 with _ | ⟨f, _ | ⟨g, C⟩⟩
  · have cv : d_convert [liD (clsOf ws [] P P.length) nm, tld ws w, .str (S (ws.getD b []))] = .ex ⟨"NoCopy", ["title"], [.str (S (ws.getD b []))]⟩ := cv
    simp -implicitDefEqProofs (disch := (first | assumption | omega | (simp only [ngs]; done) | decide)) only [ev, ev2, ev3, R.bind_ok, R.bind_ex, R.st_ok, R.st_ex, R.of_some, List.length_map, cv, ty_xx m1, th5 (show 3 < 5 by decide), th5 (show 4 < 5 by decide), is0, look_h]
    rfl
  · have cv : d_convert [liD (clsOf ws [] P P.length) nm, tld ws w, .str (S (ws.getD b []))] = .ok (tld ws f) := cv
    simp -implicitDefEqProofs (disch := (first | assumption | omega | (simp only [ngs]; done) | decide)) only [ev, ev2, ev3, R.bind_ok, R.bind_ex, R.st_ok, R.st_ex, R.of_some, List.length_map, cv]
    rfl
  · have cv : d_convert [liD (clsOf ws [] P P.length) nm, tld ws w, .str (S (ws.getD b []))] = .ex ⟨"Ambiguous", ["other", "one", "name"], [tld ws g, tld ws f, .str (S (ws.getD b []))]⟩ := cv
    have k1 : lookD ["other", "one", "name"] [tld ws g, tld ws f, .str (S (ws.getD b []))] "name" = some (.str (S (ws.getD b []))) := by rw [look_t (by decide +kernel), look_t (by decide +kernel), look_h]
    have k2 : lookD ["other", "one", "name"] [tld ws g, tld ws f, .str (S (ws.getD b []))] "one" = some (tld ws f) := by rw [look_t (by decide +kernel), look_h]
    have k3 : lookD ["other", "one", "name"] [tld ws g, tld ws f, .str (S (ws.getD b []))] "other" = some (tld ws g) := by rw [look_h]
    simp -implicitDefEqProofs (disch := (first | assumption | omega | (simp only [ngs]; done) | decide)) only [ev, ev2, ev3, R.bind_ok, R.bind_ex, R.st_ok, R.st_ex, R.of_some, List.length_map, cv, ty_xx m2, th5 (show 3 < 5 by decide), th5 (show 4 < 5 by decide), ia0, ia1, k1, k2, k3]
    rfl
noncomputable abbrev e17 (ns : List Int) (r1 st : D) (P : List Pn) (ws : List Wd) (T : List (List Nat)) (top : Nat) (w : List Nat) (b : Nat) (a11 a12 a13 a14 a15 : Option Slot) : DEnv :=
  [some (.val (.scr ns)), some (.val r1), some (.val st), some (.val (.int P.length)), some (.val (plnD P)), some (.val (.lst (stL ws))), some (.val (liD (clsOf ws [] P P.length) (nmsOf ws [] P))), some (.val (ttD T)), some (.val (.int top)), some (.val (tuN w)), some (.val (.int b)), a11, a12, a13, a14, a15, none, none]
theorem told_loop {ns : List Int} {r1 st : D} {a11 a12 a13 : Option Slot} {top : Nat} (hw : Wds ws) (ho : PlanOk m P) (hP : P.length = ws.length) (hT : T.length = P.length) (hS : ShT P T) (htop : top < P.length) {w : List Nat} (hr : Rch P [top] w) : ∀ F : List (List Nat), (∀ f ∈ F, Rch P w f ∧ lst f = b) →
    forL (gVar 14) [14, 15] b_law_1 (wayD ws F) (e17 ns r1 st P ws T top w b a11 a12 a13 none none) = .ok (.nx (e17 ns r1 st P ws T top w b a11 a12 a13 none none))
  | [], _ => by rw [show wayD ws [] = [] from rfl, f_n]
  | f :: F, h => by
    obtain ⟨h1, h2⟩ := h f List.mem_cons_self
    have vt : Vw P P.length [top] := htop
    have vw := hr.vw ho vt
    have vf := h1.vw ho vw
    have hrf := Rch.trans hr h1
    have hh : hdn f = top ∨ Sh P top (hdn f) := by
      rcases (rch_iff ho vt vf).mp hrf with h | h
      · exact .inr h
      · left
        have h : f.take 1 = [top] := h
        cases f with
        | nil => cases h
        | cons a r => exact List.head_eq_of_cons_eq h
    have rw1 := read_way_ok hw ho (by omega) hT hS htop vf hh
    have ne0 := eq_niL f
    rw [decide_eq_false vf.ne] at ne0
    have x1 : oIx (.lst (niL f)) (.int (-1)) = some (.int (b : Nat)) := by
      have : (niL f).getLast? = some (.int (lst f : Nat)) := by unfold niL; rw [List.getLast?_map, vf.last.2]; rfl
      rw [p_ixl, p_at1, this, h2]
    have nb : oNe (.int (b : Nat)) (.int (b : Nat)) = some (.bl false) := by rw [p_nei]; simp
    have x0 : oIx (.lst (niL f)) (.int 0) = some (.int (hdn f : Nat)) := by
      cases f with
      | nil => exact vf.elim
      | cons a r => rfl
    have xw : oIx (tuN w) (.int (-1)) = some (.int (lst w : Nat)) := by
      have : (niL w).getLast? = some (.int (lst w : Nat)) := by unfold niL; rw [List.getLast?_map, vw.last.2]; rfl
      unfold tuN
      rw [p_ixt, p_at1, this]
    have lw := vw.last.1
    have xt : (T.map fun l => D.lst (niL l))[lst w]? = some (.lst (niL (T.getD (lst w) []))) := by
      rw [List.getElem?_map, List.getElem?_eq_getElem (by omega), List.getD_eq_getElem?_getD, List.getElem?_eq_getElem (by omega)]; rfl
    have ni := notin_ni (hdn f) (T.getD (lst w) [])
    have ln : oLen (tuN w) = some (.int (w.length : Nat)) := by
      show oLen (.tup (niL w)) = _
      rw [p_lent]; unfold niL; rw [List.length_map]
    have sl : oSl none (some ((w.length : Nat) : Int)) (.lst (niL f)) = some (.lst (niL (f.take w.length))) := by
      rw [sl_to (by omega), Int.toNat_natCast]; unfold niL; rw [List.map_take]
    have tu : oTuple (.lst (niL (f.take w.length))) = some (tuN (f.take w.length)) := rfl
    have nt := ne_tuN (f.take w.length) w
    have st1 : b_law_1 (e17 ns r1 st P ws T top w b a11 a12 a13 (some (.val (tld ws f))) none) = .ok (.nx (e17 ns r1 st P ws T top w b a11 a12 a13 (some (.val (tld ws f))) (some (.val (.lst (niL f)))))) := by
      have rw1 : d_law_read_way [plnD P, .lst (T.map fun l => .lst (niL l)), .lst (stL ws), .int top, tld ws f] = .ok (.lst (niL f)) := rw1
      unfold b_law_1 e17 ttD
      rcases (rch_iff ho vw vf).mp h1 with hs | hs
      · rw [decide_eq_true ((hS.mem (lst w) (by omega) (hdn f)).mpr hs)] at ni
        simp -implicitDefEqProofs (disch := (first | assumption | omega | (simp only [ngs]; done) | decide)) only [ev, ev2, ev3, R.bind_ok, R.bind_ex, R.st_ok, R.st_ex, R.of_some, List.length_map, rw1, ↓ne0, x1, ↓nb, x0, xw, xt, ↓ni, Bool.not_true]
      · rw [decide_eq_true hs] at nt
        by_cases hd : hdn f ∈ T.getD (lst w) []
        · rw [decide_eq_true hd] at ni
          simp -implicitDefEqProofs (disch := (first | assumption | omega | (simp only [ngs]; done) | decide)) only [ev, ev2, ev3, R.bind_ok, R.bind_ex, R.st_ok, R.st_ex, R.of_some, List.length_map, rw1, ↓ne0, x1, ↓nb, x0, xw, xt, ↓ni, Bool.not_true]
        · rw [decide_eq_false hd] at ni
          simp -implicitDefEqProofs (disch := (first | assumption | omega | (simp only [ngs]; done) | decide)) only [ev, ev2, ev3, R.bind_ok, R.bind_ex, R.st_ok, R.st_ex, R.of_some, List.length_map, rw1, ↓ne0, x1, ↓nb, x0, xw, xt, ↓ni, Bool.not_false, ↓ln, ↓sl, tu, ↓nt, Bool.not_true]
    have ih := told_loop (ns := ns) (r1 := r1) (st := st) (a11 := a11) (a12 := a12) (a13 := a13) hw ho hP hT hS htop hr F fun x hx => h x (List.mem_cons_of_mem _ hx)
    unfold e17 at st1 ih ⊢
    rw [show wayD ws (f :: F) = tld ws f :: wayD ws F from rfl, f_c]
    simp -implicitDefEqProofs (disch := (first | assumption | omega | (simp only [ngs]; done) | decide)) only [ev, R.bind_ok, R.bind_ex, R.st_ok, R.st_ex, R.of_some, List.length_map, st1, ih]
end
theorem law_ok (ns : List Int) (hlen : ns.length ≤ 63) : d_law [.scr ns] = .ok (.bl true) := by
  obtain ⟨c, hc⟩ := law_cell_ok ns 0 (by decide)
  obtain ⟨row, hrow, hrl, hB⟩ := law_row_ok c 1 [4, 61, 1664, 3, 4, 62, 62, 62, 62, 3] (by decide) (by decide)
  have hrl : row.length = 10 := hrl
  have gx : ∀ k : Nat, k < 10 → atD (row.map D.int) (k : Int) = some (.int (row.getD k 0)) := fun k hk => at_eq (n := k) (mapG (getD_some (by omega))) rfl
  have x0 : atD (row.map D.int) 0 = some (.int (row.getD 0 0)) := gx 0 (by decide)
  have x1 : atD (row.map D.int) 1 = some (.int (row.getD 1 0)) := gx 1 (by decide)
  have x2 : atD (row.map D.int) 2 = some (.int (row.getD 2 0)) := gx 2 (by decide)
  have x3 : atD (row.map D.int) 3 = some (.int (row.getD 3 0)) := gx 3 (by decide)
  have x4 : atD (row.map D.int) 4 = some (.int (row.getD 4 0)) := gx 4 (by decide)
  have x8 : atD (row.map D.int) 8 = some (.int (row.getD 8 0)) := gx 8 (by decide)
  have x9 : atD (row.map D.int) 9 = some (.int (row.getD 9 0)) := gx 9 (by decide)
  obtain ⟨a0, a1⟩ := hB 0 _ 4 (getD_some (l := row) (k := 0) (by omega)) rfl
  obtain ⟨b0, b1⟩ := hB 1 _ 61 (getD_some (l := row) (k := 1) (by omega)) rfl
  obtain ⟨s0, s1⟩ := hB 2 _ 1664 (getD_some (l := row) (k := 2) (by omega)) rfl
  obtain ⟨d0, d1⟩ := hB 3 _ 3 (getD_some (l := row) (k := 3) (by omega)) rfl
  generalize row.getD 0 0 = r0 at x0 a0 a1
  generalize row.getD 1 0 = r1 at x1 b0 b1
  generalize row.getD 2 0 = s at x2 s0 s1
  generalize row.getD 3 0 = r3 at x3 d0 d1
  generalize row.getD 4 0 = r4 at x4
  generalize row.getD 8 0 = r8 at x8
  generalize row.getD 9 0 = r9 at x9
  obtain ⟨st, hst, hs⟩ : ∃ st : Int, atD [D.int 0, D.int 1, D.int 2, D.int 0] r0 = some (.int st) ∧ (st = 0 ∨ st = 1 ∨ st = 2) := by
    have : r0 = 0 ∨ r0 = 1 ∨ r0 = 2 ∨ r0 = 3 := by omega
    rcases this with rfl | rfl | rfl | rfl
    · exact ⟨0, rfl, .inl rfl⟩
    · exact ⟨1, rfl, .inr (.inl rfl)⟩
    · exact ⟨2, rfl, .inr (.inr rfl)⟩
    · exact ⟨0, rfl, .inl rfl⟩
  obtain ⟨md, hmd, md1, md2⟩ : ∃ md : Int, atD [D.int 13, D.int 17, D.int 61] st = some (.int md) ∧ 0 < md ∧ md ≤ 61 := by
    rcases hs with rfl | rfl | rfl
    · exact ⟨13, rfl, by decide, by decide⟩
    · exact ⟨17, rfl, by decide, by decide⟩
    · exact ⟨61, rfl, by decide, by decide⟩
  have q1 := Int.emod_nonneg r1 (show md ≠ 0 by omega)
  have q2 := Int.emod_lt_of_pos r1 md1
  have hmod : oMod (.int r1) (.int md) = some (.int (r1 % md)) := p_mod md1
  obtain ⟨n, hn⟩ : ∃ n : Nat, 2 + r1 % md = n := ⟨(2 + r1 % md).toNat, by omega⟩
  have n62 : n ≤ 62 := by omega
  have npos : 2 ≤ n := by omega
  obtain ⟨P, hP, ho, hA, hplan⟩ := law_dense_ok ns 1 n st hs (by decide) (by omega)
  obtain ⟨ws, hw, hwl, hwd⟩ := words_ok s0 n62
  subst hP
  obtain ⟨T, hT, hS, hsh⟩ := law_shared_ok ho (by omega)
  have hdr := law_draftsD_ok hw (by omega : P.length ≤ ws.length) ho
  have hli := lib_ok hw Wds.nil ho (by omega : P.length ≤ ws.length) (by decide)
  have n9 : P.length < 1000000000 := by omega
  have wc := fun c3 c4 c6 c7 c8 c9 c10 c11 c12 c13 c14 c15 c17 => word_comp (e := e2 oIx (eVar 1) (eC (.int 2))) (j := 16) (ρ := [some (.val (.scr ns)), some (.val (.lst (row.map D.int))), some (.val (.int st)), c3, c4, none, c6, c7, c8, c9, c10, c11, c12, c13, c14, c15, none, c17]) hwl (by omega) hwd rfl (fun x => ⟨_, rfl, by simp -implicitDefEqProofs (disch := (first | assumption | omega | (simp only [ngs]; done) | decide)) only [ev, R.bind_ok, R.bind_ex, R.st_ok, R.st_ex, R.of_some, List.length_map, x2], rfl⟩)
  have hrow : d_law_row [.int c, .int 1, .lst [.int 4, .int 61, .int 1664, .int 3, .int 4, .int 62, .int 62, .int 62, .int 62, .int 3]] = .ok (.lst (row.map D.int)) := hrow
  have hplan : d_law_dense [.scr ns, .int 1, .int P.length, .int 0, .int st] = .ok (plnD P) := hplan
  have hsh : d_law_shared [plnD P] = .ok (ttD T) := hsh
  obtain ⟨top, et, lt⟩ : ∃ k : Nat, (if (P.length : Int) - 1 - r3 > 0 then (P.length : Int) - 1 - r3 else 0) = k ∧ k < P.length := by
    by_cases h : (P.length : Int) - 1 - r3 > 0
    · exact ⟨((P.length : Int) - 1 - r3).toNat, by rw [if_pos h]; omega, by omega⟩
    · exact ⟨0, by rw [if_neg h]; rfl, by omega⟩
  have mx : oMax (.int 0) (.int ((P.length : Int) - 1 - r3)) = some (.int top) := by rw [p_max, et]
  have vt : Vw P P.length [top] := lt
  have tt : D.tup [.int top] = tuN [top] := rfl
  obtain ⟨w, rw0, dw⟩ := law_walk_ok ho rfl n62 vt (cutD row (some 5) (some (5 + r4)))
  have vw := rw0.vw ho vt
  have lw := vw.last.1
  have hwa := Vw.all (lb := []) ho vw
  have hw4 := hw.l
  have fin : ∀ b : Nat, b < P.length → ∃ d11 d12 d13, ∀ a10, a10 = b → (sSeq (sSet 11 (eCall d_law_counts (aCons (eVar 4) (aCons (eVar 10) (aNil))))) (sSeq (sSet 12 (e2 oAdd (e2 oIx (eVar 11) (e2 oIx (eVar 9) (e1 oNeg (eC (.int 1))))) (e1 oSum (eComp (iOf (e2 oIx (eVar 7) (e2 oIx (eVar 9) (e1 oNeg (eC (.int 1)))))) [17] (gVar 17) (tYesD) (e2 oIx (eVar 11) (eVar 17)))))) (sSeq (sSet 13 (eCall d_law_asked (aCons (eVar 6) (aCons (e1 oTuple (eComp (iOf (eVar 9)) [16] (gVar 16) (tYesD) (e2 oIx (eVar 5) (eVar 16)))) (aCons (e2 oIx (eVar 5) (eVar 10)) (aNil)))))) (sSeq (sIf (tVal (e2 oEq (eVar 12) (eC (.int 0)))) (sRet (e2 oEq (eVar 13) (eLst (aCons (eC (.str "none")) (aCons (e2 oIx (eVar 5) (eVar 10)) (aNil)))))) (sNext)) (sSeq (sIf (tAndD (tVal (e2 oGt (eVar 12) (eC (.int 1)))) (tOrD (tVal (e2 oNe (e1 oLen (eVar 13)) (eC (.int 3)))) (tOrD (tVal (e2 oNe (e2 oIx (eVar 13) (eC (.int 2))) (e2 oIx (eVar 5) (eVar 10)))) (tVal (e2 oEq (e2 oIx (eVar 13) (eC (.int 0))) (e2 oIx (eVar 13) (eC (.int 1)))))))) (sRet (eC (.bl false))) (sNext)) (sSeq (sIf (tAndD (tVal (e2 oEq (eVar 12) (eC (.int 1)))) (tVal (e2 oNe (e1 oLen (eVar 13)) (eC (.int 1))))) (sRet (eC (.bl false))) (sNext)) (sSeq (sFor (iOf (eSl (eVar 13) (xNone) (xSome (eC (.int 2))))) (gVar 14) [14, 15] b_law_1) (sRet (eC (.bl true)))))))))) (e17 ns (.lst (row.map D.int)) (.int st) P ws T top w a10 none none none none none) =
      .ok (.rt (.bl true) (e17 ns (.lst (row.map D.int)) (.int st) P ws T top w b (some (.val d11)) (some (.val d12)) (some (.val d13)) none none)) := by
    intro b hb
    have hcn := law_counts_ok (b := b) ho (by omega)
    have cl : (cnTab P b P.length).length = P.length := cnTab_len P.length
    have xc : ((cnTab P b P.length).map D.int)[lst w]? = some (.int ((cnTab P b P.length).getD (lst w) 0)) := mapG (f := D.int) (getD_some (by omega))
    have xw : oIx (tuN w) (.int (-1)) = some (.int (lst w : Nat)) := by
      have : (niL w).getLast? = some (.int (lst w : Nat)) := by unfold niL; rw [List.getLast?_map, vw.last.2]; rfl
      unfold tuN
      rw [p_ixt, p_at1, this]
    have xt : (T.map fun l => D.lst (niL l))[lst w]? = some (.lst (niL (T.getD (lst w) []))) := by
      rw [List.getElem?_map, List.getElem?_eq_getElem (by omega), List.getD_eq_getElem?_getD, List.getElem?_eq_getElem (by omega)]; rfl
    have itn : ∀ l : List Nat, iterD (.lst (niL l)) = some (niL l) := fun l => rfl
    have itt : iterD (tuN w) = some (niL w) := rfl
    have few := hS.few (lst w) (by omega)
    have c1 : ∀ c11, compS (gVar 17) tYesD (e2 oIx (eVar 11) (eVar 17)) [17] (e17 ns (.lst (row.map D.int)) (.int st) P ws T top w b (some (.val (.lst ((cnTab P b P.length).map D.int)))) c11 none none none) (niL (T.getD (lst w) [])) = .ok (.lst (((T.getD (lst w) []).map fun k => (cnTab P b P.length).getD k 0).map D.int)) := by
      intro c11
      have e := comp_map (g := gVar 17) (p := tYesD) (e := e2 oIx (eVar 11) (eVar 17)) (vs := [17]) (ρ := e17 ns (.lst (row.map D.int)) (.int st) P ws T top w b (some (.val (.lst ((cnTab P b P.length).map D.int)))) c11 none none none) (fun k : Nat => .int k) (fun k => .int ((cnTab P b P.length).getD k 0)) (l := T.getD (lst w) []) (by have := few.len; omega) rfl (fun k hk => by
        have := ((hS.mem (lst w) (by omega) k).mp hk).lt ho
        have xk : ((cnTab P b P.length).map D.int)[k]? = some (.int ((cnTab P b P.length).getD k 0)) := mapG (f := D.int) (getD_some (by omega))
        unfold cStep
        simp -implicitDefEqProofs (disch := (first | assumption | omega | (simp only [ngs]; done) | decide)) only [ev, R.bind_ok, R.bind_ex, R.st_ok, R.st_ex, R.of_some, List.length_map, xk, if_true])
      rw [List.map_map]
      exact e
    have c2 : ∀ c11 c12, compS (gVar 16) tYesD (e2 oIx (eVar 5) (eVar 16)) [16] (e17 ns (.lst (row.map D.int)) (.int st) P ws T top w b c11 c12 none none none) (niL w) = .ok (.lst (stL (wmap ws w))) := by
      intro c11 c12
      have e := comp_map (g := gVar 16) (p := tYesD) (e := e2 oIx (eVar 5) (eVar 16)) (vs := [16]) (ρ := e17 ns (.lst (row.map D.int)) (.int st) P ws T top w b c11 c12 none none none) (fun k : Nat => .int k) (fun k => .str (S (ws.getD k []))) (l := w) (by omega) rfl (fun k hk => by
        have := hwa.1 k hk
        have xk := stL_at (ws := ws) (k := k) (by omega)
        unfold cStep
        simp -implicitDefEqProofs (disch := (first | assumption | omega | (simp only [ngs]; done) | decide)) only [ev, R.bind_ok, R.bind_ex, R.st_ok, R.st_ex, R.of_some, List.length_map, xk, if_true])
      rw [stL_wmap]
      exact e
    have sm := sum_ints ((T.getD (lst w) []).map fun k => (cnTab P b P.length).getD k 0)
    have tot := cc_law (b := b) ho hT hS lw
    have tu : oTuple (.lst (stL (wmap ws w))) = some (tld ws w) := rfl
    have xb := stL_at (ws := ws) (k := b) (by omega)
    have ak := asked_ok (nm := nmsOf ws [] P) hw ho (by omega) hb vw
    obtain ⟨k1, k2, k3⟩ := cv_count (b := b) ho vw
    obtain ⟨s1, _, s3⟩ := cv_spec (b := b) ho vw
    have lp := fun d11 d12 d13 F hF => told_loop (ns := ns) (r1 := .lst (row.map D.int)) (st := .int st) (a11 := some (.val d11)) (a12 := some (.val d12)) (a13 := some (.val d13)) (b := b) hw ho (by omega) hT hS lt rw0 F hF
    have q0 : oEq (.lst [.str "none", .str (S (ws.getD b []))]) (.lst [.str "none", .str (S (ws.getD b []))]) = some (.bl true) := eq_self (by
      show (shp 59 (.str "none") && (shp 59 (.str (S (ws.getD b []))) && true)) = true
      rw [shp_str (hw.w _ (wmem (by omega))) 59, show shp 59 (.str "none") = true from by decide +kernel]; rfl)
    refine ⟨.lst ((cnTab P b P.length).map D.int), .int (cc P (lst w) b), .lst (askD ws b (cvL P b w)), fun a10 e => ?_⟩
    subst e
    have kk : ∀ x ∈ cvL P a10 w, ∀ k ∈ x, k < ws.length := fun x hx k hk => by have := (Vw.all (lb := []) ho ((s1 x hx).1.vw ho vw)).1 k hk; omega
    unfold e17 at c1 c2 lp ⊢
    unfold ttD at lp c1 c2 ⊢
    generalize cvL P a10 w = C at ak k1 k2 k3 s1 s3 kk ⊢
    rcases C with _ | ⟨f, _ | ⟨g, C⟩⟩
    · have k0 := k1 rfl
      have ak : d_law_asked [liD (clsOf ws [] P P.length) (nmsOf ws [] P), tld ws w, .str (S (ws.getD a10 []))] = .ok (.lst [.str "none", .str (S (ws.getD a10 []))]) := ak
      simp -implicitDefEqProofs (disch := (first | assumption | omega | (simp only [ngs]; done) | decide)) only [ev, ev2, ev3, R.bind_ok, R.bind_ex, R.st_ok, R.st_ex, R.of_some, List.length_map, hcn, xw, xc, xt, itn, c1, sm, tot, itt, c2, tu, xb, ak, k0, decide_true, ↓q0]
      rfl
    · have k0 := k2 f rfl
      have ak : d_law_asked [liD (clsOf ws [] P P.length) (nmsOf ws [] P), tld ws w, .str (S (ws.getD a10 []))] = .ok (.lst [tld ws f]) := ak
      have lp := lp (.lst ((cnTab P a10 P.length).map D.int)) (.int 1) (.lst [tld ws f]) [f] s1
      rw [show wayD ws [f] = [tld ws f] from rfl] at lp
      have d1 : decide ((1 : Int) = 0) = false := by decide
      have d2 : decide ((1 : Int) > 1) = false := by decide
      have ln : oLen (.lst [tld ws f]) = some (.int 1) := rfl
      have nl : oNe (.int 1) (.int 1) = some (.bl false) := rfl
      have sl : oSl none (some 2) (.lst [tld ws f]) = some (.lst [tld ws f]) := rfl
      have itl : iterD (.lst [tld ws f]) = some [tld ws f] := rfl
      simp -implicitDefEqProofs (disch := (first | assumption | omega | (simp only [ngs]; done) | decide)) only [ev, ev2, ev3, R.bind_ok, R.bind_ex, R.st_ok, R.st_ex, R.of_some, List.length_map, hcn, xw, xc, xt, itn, c1, sm, tot, itt, c2, tu, xb, ak, k0, d1, d2, decide_true, ↓ln, ↓nl, ↓sl, ↓itl, lp]
      rfl
    · have k0 := k3 f g C rfl
      have ak : d_law_asked [liD (clsOf ws [] P P.length) (nmsOf ws [] P), tld ws w, .str (S (ws.getD a10 []))] = .ok (.lst [tld ws f, tld ws g, .str (S (ws.getD a10 []))]) := ak
      have fg : f ≠ g := fun z => (List.nodup_cons.mp s3).1 (by rw [z]; exact List.mem_cons_self)
      have eq := eq_tld hw (kk f List.mem_cons_self) (kk g (List.mem_cons_of_mem _ List.mem_cons_self))
      rw [decide_eq_false fg] at eq
      have lp := lp (.lst ((cnTab P a10 P.length).map D.int)) (.int (cc P (lst w) a10)) (.lst [tld ws f, tld ws g, .str (S (ws.getD a10 []))]) [f, g] (fun x hx => s1 x (by
        rcases List.mem_cons.mp hx with rfl | h
        · exact List.mem_cons_self
        · rw [List.mem_singleton.mp h]; exact List.mem_cons_of_mem _ List.mem_cons_self))
      rw [show wayD ws [f, g] = [tld ws f, tld ws g] from rfl] at lp
      have d1 : decide (cc P (lst w) a10 = 0) = false := decide_eq_false (by omega)
      have d2 : decide (cc P (lst w) a10 > 1) = true := decide_eq_true (by omega)
      have d3 : decide (cc P (lst w) a10 = 1) = false := decide_eq_false (by omega)
      have ln : oLen (.lst [tld ws f, tld ws g, .str (S (ws.getD a10 []))]) = some (.int 3) := rfl
      have n3 : oNe (.int 3) (.int 3) = some (.bl false) := rfl
      have y0 : oIx (.lst [tld ws f, tld ws g, .str (S (ws.getD a10 []))]) (.int 0) = some (tld ws f) := rfl
      have y1 : oIx (.lst [tld ws f, tld ws g, .str (S (ws.getD a10 []))]) (.int 1) = some (tld ws g) := rfl
      have y2 : oIx (.lst [tld ws f, tld ws g, .str (S (ws.getD a10 []))]) (.int 2) = some (.str (S (ws.getD a10 []))) := rfl
      have nb : oNe (.str (S (ws.getD a10 []))) (.str (S (ws.getD a10 []))) = some (.bl false) := by rw [p_nes]; simp
      have sl : oSl none (some 2) (.lst [tld ws f, tld ws g, .str (S (ws.getD a10 []))]) = some (.lst [tld ws f, tld ws g]) := rfl
      have itl : iterD (.lst [tld ws f, tld ws g]) = some [tld ws f, tld ws g] := rfl
      simp -implicitDefEqProofs (disch := (first | assumption | omega | (simp only [ngs]; done) | decide)) only [ev, ev2, ev3, R.bind_ok, R.bind_ex, R.st_ok, R.st_ex, R.of_some, List.length_map, hcn, xw, xc, xt, itn, c1, sm, tot, itt, c2, tu, xb, ak, d1, d2, d3, ↓ln, ↓n3, ↓y0, ↓y1, ↓y2, ↓nb, ↓eq, ↓sl, ↓itl, lp]
      rfl
  obtain ⟨kn, en, ln⟩ : ∃ k : Nat, r8 % (P.length : Int) = k ∧ k < P.length := by
    have h1 := Int.emod_nonneg r8 (show (P.length : Int) ≠ 0 by omega)
    have h2 := Int.emod_lt_of_pos r8 (show (0 : Int) < P.length by omega)
    exact ⟨(r8 % P.length).toNat, by omega, by omega⟩
  obtain ⟨k2, e2, l2⟩ : ∃ k : Nat, r8 % 2 = k ∧ k < P.length := by
    have h1 := Int.emod_nonneg r8 (show (2 : Int) ≠ 0 by omega)
    have h2 := Int.emod_lt_of_pos r8 (show (0 : Int) < 2 by omega)
    exact ⟨(r8 % 2).toNat, by omega, by omega⟩
  have omn : oMod (.int r8) (.int P.length) = some (.int kn) := by rw [p_mod (by omega), en]
  have om2 : oMod (.int r8) (.int 2) = some (.int k2) := by rw [p_mod (by decide), e2]
  have s10 : seqS D.lst [.int 4, .int 61, .int 1664, .int 3, .int 4, .int 62, .int 62, .int 62, .int 62, .int 3] = .ok (.lst [.int 4, .int 61, .int 1664, .int 3, .int 4, .int 62, .int 62, .int 62, .int 62, .int 3]) := sS (by show 10 ≤ 1000000; decide)
  rw [e_law]
  unfold b_law
  cases hd : decide (r9 = 0) with
  | true =>
    obtain ⟨d11, d12, d13, ff⟩ := fin k2 l2
    have ff := ff k2 rfl
    unfold e17 at ff
    simp -implicitDefEqProofs (disch := (first | assumption | omega | (simp only [ngs]; done) | decide)) only [ev, ev2, ev3, R.bind_ok, R.bind_ex, R.st_ok, R.st_ex, R.of_some, List.length_map, hc, s10, hrow, x0, x1, x3, x4, x8, x9, hst, hmd, ↓hmod, hn, hplan, rg_n n9, wc, hdr, hli, hsh, ↓mx, tt, cut_map, dw, ↓omn, ↓om2, hd, ↓ff]
  | false =>
    obtain ⟨d11, d12, d13, ff⟩ := fin kn ln
    have ff := ff kn rfl
    unfold e17 at ff
    simp -implicitDefEqProofs (disch := (first | assumption | omega | (simp only [ngs]; done) | decide)) only [ev, ev2, ev3, R.bind_ok, R.bind_ex, R.st_ok, R.st_ex, R.of_some, List.length_map, hc, s10, hrow, x0, x1, x3, x4, x8, x9, hst, hmd, ↓hmod, hn, hplan, rg_n n9, wc, hdr, hli, hsh, ↓mx, tt, cut_map, dw, ↓omn, ↓om2, hd, ↓ff]
end Tw

set_option maxHeartbeats 0
open PySem PySem.W PySem.Calls PyProof.Rows
theorem PySem.Challenge.cw_twicebased_k17_convert_large_holds : PySem.Challenge.rw_twicebased_k17_convert_large.Holds := by
  w_on; o_law
  refine HandSHeadRun.head_any (r := PySem.W.OpenLaw.row PySem.Challenge.rw_twicebased_k17_convert_large) (q := PySem.W.view (PySem.W.OpenLaw.row PySem.Challenge.rw_twicebased_k17_convert_large).prog [43]) (H := Tw.hkT) (ob := Tw.obT) (M := 30000) (loose := Tw.nm) (d := HandSHeadRun.topDef (PySem.W.OpenLaw.row PySem.Challenge.rw_twicebased_k17_convert_large).prog 43) (kwd := []) Tw.obT_eq
    (by kernel_rfl) (fun s => by kernel_rfl) Tw.runT (by kernel_rfl) (by kernel_rfl) (by kernel_rfl) (by rfl) (by first | assumption | decide +kernel) (by decide +kernel) ⟨rfl, rfl, rfl, rfl, rfl, by decide +kernel⟩ ?hw ?hc
  case hw => w_witness2
  case hc =>
    refine L2.walk_ofE (l := PySem.Challenge.rw_twicebased_k17_convert_large) (n := 63) (k := 9) (x := "_law_script") (CX := Tw.CXw (PySem.Challenge.rw_twicebased_k17_convert_large).prog) rfl (by decide) (by kernel_rfl) ⟨rfl, by decide, by decide⟩ ?F (fun _ _ _ _ z => z.no)
    intro w mg fa h Y G hmg0
    obtain ⟨K, KX, c⟩ := Y
    have hmg : mg ("law" : PySem.Str) = some (.ref fa) := by
      have e : (HandSHeadRun.topDef (PySem.W.OpenLaw.row PySem.Challenge.rw_twicebased_k17_convert_large).prog 43).name = ("law" : PySem.Str) := by kernel_rfl
      rw [← e]
      exact hmg0
    have F := Tw.fx_of KX G c
    have e := hmg.symm.trans F.g_law
    cases e
    have b := L2.FunD.bindsA (ps := ["_law_script"]) F.d_law.choose_spec fun _ _ _ _ _ _ us hl => match us, hl with | [_], _ => rfl
    exact ⟨K, F.d_law.choose, Tw.dsp (Tw.gg F) Tw.d_law, KX, fun s v => b s [v] rfl, fun H a ns hl _ hS => Tw.law_sp F Tw.law_ok H a ns hl hS, fun base _ _ => Tw.FnOk.anyW (Tw.f_law (w := w) (base := base) F).2.1⟩
