import PyProof.Rows.All
import Wide.All
import OpenK.AllK
import Wide.FinOn
import HandS.ForMost
import HandS.Deep
import HandS.ForExc
import HandS.Defaults
import HandS.IsInst
import HandS.TupAny
import HandS.TupLe
import HandS.CallSlots
import HandS.MakeKwOnly
import HandS.ClsMeth
import HandS.IterVal
import KE.KOwnIter
import HandS.Head0
import HandS.Head1
import HandS.Head2
import HandS.HeadEnd
import HandS.HeadHook1
import HandS.HeadHook2
import HandS.HeadNt
import HandS.Codes
import HandS.ExcInit
import HandS.ExcSuper
import HandS.ExcField
import HandS.ExcIs
import HandS.TryOnly
import KE.KExcSuper
import HandS.MakeKw
import HandS.Style
import KE.KExcIs
import HandS.OwnIter
import HandS.SetFor
import HandS.Zip
import HandS.Rev
import HandS.DictComp
import KE.KExcRaise
import HandS.Text
import HandS.StrMore
import PySem.Challenge.RW_twicebased_k12_listing
import PyProof.FString3
import PyProof.FactsAll.str_1
import PyProof.FString4
import HandS.FStr
set_option Elab.async false
set_option linter.all false
set_option maxRecDepth 100000
namespace Tw
open PySem
/-- data: a Python value without the heap -/
inductive D where
  | non | bl (b : Bool) | int (i : Int) | str (s : Str) | cls (n : String)
  | scr (ns : List Int) | gst (j : Nat)
  | tup (l : List D) | lst (l : List D)
  | dct (ks : List Str) (vs : List D)
  | obj (c : String) (ks : List Str) (vs : List D)
  deriving Inhabited
/-- an exception: its class, its fields -/
structure Ex where
  cls : String
  ks : List Str
  vs : List D
/-- what comes of a piece of text: a value, an exception, or nothing is said -/
inductive R (α : Type) where
  | ok (a : α) | ex (e : Ex) | no
/-- an operation that raises nothing -/
def R.of {α : Type} : Option α → R α
  | some a => .ok a
  | none => .no
@[simp] theorem R.of_some {α : Type} (a : α) : R.of (some a) = .ok a := rfl
@[simp] theorem R.of_none {α : Type} : R.of (none : Option α) = .no := rfl
def R.bind {α β : Type} : R α → (α → R β) → R β
  | .ok a, f => f a
  | .ex e, _ => .ex e
  | .no, _ => .no
@[simp] theorem R.bind_ok {α β : Type} (a : α) (f : α → R β) : (R.ok a).bind f = f a := rfl
@[simp] theorem R.bind_ex {α β : Type} (e : Ex) (f : α → R β) : (R.ex e : R α).bind f = .ex e := rfl
@[simp] theorem R.bind_no {α β : Type} (f : α → R β) : (R.no : R α).bind f = .no := rfl
/-- a name's content: a value; a container of the def's own (nobody else holds it); the object under construction -/
inductive Slot where
  | val (d : D) | own (d : D) | slf (d : D) | gho (d : D) | ptr | pin (d : D)
abbrev DEnv := List (Option Slot)
abbrev DE := DEnv → R D
abbrev DT := DEnv → R Bool
abbrev DA := DEnv → R (List D)
abbrev DI := DEnv → R (List D)
abbrev DG := D → DEnv → R DEnv
inductive Out where
  | nx (ρ : DEnv) | rt (d : D) (ρ : DEnv) | bk (ρ : DEnv) | ct (ρ : DEnv) | xx (e : Ex) (ρ : DEnv)
abbrev DS := DEnv → R Out
def atD {α : Type} (l : List α) (i : Int) : Option α :=
  if 0 ≤ i then l[i.toNat]? else if -(l.length : Int) ≤ i then l[(i + l.length).toNat]? else none
def lookD : List Str → List D → Str → Option D
  | k :: ks, v :: vs, x => if x = k then some v else lookD ks vs x
  | _, _, _ => none
/-- the pair is put: replaced, or at the end -/
def putDk (x : Str) : List Str → List Str
  | [] => [x]
  | k :: ks => if x = k then k :: ks else k :: putDk x ks
def putDv (x : Str) (y : D) : List Str → List D → List D
  | k :: ks, v :: vs => if x = k then y :: vs else v :: putDv x y ks vs
  | _, _ => [y]
/-- a dict's pair is put: replaced wherever it stands, or at the end -/
def repDv (x : Str) (y : D) : List Str → List D → List D
  | k :: ks, v :: vs => (if k = x then y else v) :: repDv x y ks vs
  | _, _ => []
def dPutK (x : Str) (ks : List Str) : List Str := if x ∈ ks then ks else ks ++ [x]
def dPutV (x : Str) (y : D) (ks : List Str) (vs : List D) : List D := if x ∈ ks then repDv x y ks vs else vs ++ [y]
def sIxD (n : Nat) (d : Nat) : Option Int → Nat
  | none => d
  | some i => if i < 0 then (i + n).toNat else min i.toNat n
def cutD {α : Type} (l : List α) (lo hi : Option Int) : List α := (l.drop (sIxD l.length 0 lo)).take (sIxD l.length l.length hi - sIxD l.length 0 lo)
def strOkD (x : Str) : Bool := x.cps.all (· < 0x110000)
mutual
/-- Python's == of data -/
def deq : D → D → Bool
  | .non, .non => true
  | .bl a, .bl b => a == b
  | .bl a, .int j => (if a then 1 else 0) == j
  | .int i, .bl b => i == (if b then 1 else 0)
  | .int i, .int j => i == j
  | .str a, .str b => a == b
  | .lst a, .lst b => deqL a b
  | .tup a, .tup b => deqL a b
  | _, _ => false
def deqL : List D → List D → Bool
  | [], [] => true
  | x :: xs, y :: ys => deq x y && deqL xs ys
  | _, _ => false
end
/-- data of the first kinds, texts of true signs, k deep at most -/
def shp : Nat → D → Bool
  | _, .non => true
  | _, .bl _ => true
  | _, .int _ => true
  | _, .str s => strOkD s
  | 0, _ => false
  | k + 1, .lst l => l.all (shp k)
  | k + 1, .tup l => l.all (shp k)
  | _, _ => false
def flatD : D → Bool
  | .non => true | .bl _ => true | .int _ => true | .str _ => true | _ => false
def lineD : Nat := 16777216
/-- the attributes of the program's classes -/
def fldOf : String → List Str
  | "Titled" => ["title"]
  | "Base" => ["title", "is_shared"]
  | "Declaring" => ["names", "statics"]
  | "Draft" => ["title", "names", "statics", "bases"]
  | "Kind" => ["title", "names", "statics", "bases", "above", "shared_bases"]
  | "Library" => ["kinds", "places", "names"]
  | "Table" => ["title", "live", "rows"]
  | "Whole" => ["title", "rows", "answers"]
  | _ => []
def w64 (i : Int) : Prop := -(2 ^ 64) < i ∧ i < 2 ^ 64
instance (n : Int) : Decidable (w64 n) := by unfold w64; infer_instance
theorem w64_of {n : Int} (h : -1000000000000000000 < n) (k : n < 1000000000000000000) : w64 n := by unfold w64; omega
def oAdd : D → D → Option D
  | .int i, .int j => some (.int (i + j))
  | .str a, .str b => if a.length + b.length ≤ lineD then some (.str (a ++ b)) else none
  | .lst a, .lst b => if a.length + b.length ≤ lineD then some (.lst (a ++ b)) else none
  | .tup a, .tup b => if a.length + b.length ≤ lineD then some (.tup (a ++ b)) else none
  | _, _ => none
def oSub : D → D → Option D
  | .int i, .int j => some (.int (i - j))
  | _, _ => none
def repS (s : Str) : Nat → Str
  | 0 => Str.empty
  | n + 1 => s ++ repS s n
def oMul : D → D → Option D
  | .int i, .int j => if w64 i ∨ w64 j then some (.int (i * j)) else none
  | .lst a, .int k => if -(2 ^ 63) ≤ k ∧ k < 2 ^ 63 ∧ a.length * k.toNat ≤ lineD then some (.lst ((List.replicate k.toNat a).flatten)) else none
  | .str s, .int k => if 0 ≤ k ∧ k ≤ 1 then some (.str (repS s k.toNat)) else none
  | _, _ => none
def oFdiv : D → D → Option D
  | .int i, .int j => if 0 < j ∧ j < 1073741824 then some (.int (i / j)) else none
  | _, _ => none
def oMod : D → D → Option D
  | .int i, .int j => if 0 < j then some (.int (i % j)) else none
  | _, _ => none
def oPow : D → D → Option D
  | .int i, .int j => if 0 ≤ j ∧ j ≤ 1000000 ∧ i.natAbs < 2 ^ 64 then some (.int (i ^ j.toNat)) else none
  | _, _ => none
def oLt : D → D → Option D
  | .int i, .int j => some (.bl (decide (i < j)))
  | _, _ => none
def oLe : D → D → Option D
  | .int i, .int j => some (.bl (decide (i ≤ j)))
  | _, _ => none
def oGt : D → D → Option D
  | .int i, .int j => some (.bl (decide (j < i)))
  | _, _ => none
def oGe : D → D → Option D
  | .int i, .int j => some (.bl (decide (j ≤ i)))
  | _, _ => none
/-- pairs of flat data that are compared at once -/
def scalD : D → D → Bool
  | .non, .non => true | .non, .int _ => true | .int _, .non => true | .non, .bl _ => true | .bl _, .non => true | .non, .str _ => true | .str _, .non => true
  | .int _, .int _ => true | .bl _, .bl _ => true | .str _, .str _ => true
  | .int _, .str _ => true | .str _, .int _ => true | .bl _, .str _ => true | .str _, .bl _ => true
  | _, _ => false
def eqD (x y : D) : Option Bool := if scalD x y then some (deq x y) else if shp 60 x && shp 60 y then some (deq x y) else none
def oEq (x y : D) : Option D := (eqD x y).bind fun b => some (.bl b)
def oNe (x y : D) : Option D := (eqD x y).bind fun b => some (.bl (!b))
def sgnD (s : Str) : Option Nat := match s.cps.toList with
  | [c] => some c
  | _ => none
def isNonD : D → Bool
  | .non => true
  | _ => false
/-- x in y: a sign in a text; flat data in a list or tuple; any in a list; a key -/
def inD (x y : D) : Option Bool :=
  match y with
  | .str t => match x with
    | .str s => (sgnD s).map fun c => decide (c ∈ t.cps.toList)
    | _ => none
  | .lst l => if flatD x && l.all flatD then some (l.any fun y => deq y x) else if shp 60 x && l.all (shp 60) then some (l.any fun y => deq y x) else none
  | .tup l => if flatD x && l.all flatD then some (l.any fun y => deq y x) else none
  | .dct ks vs => match x with
    | .str s => some (lookD ks vs s).isSome
    | _ => none
  | _ => none
def oIn (x y : D) : Option D := (inD x y).bind fun b => some (.bl b)
def oNotIn (x y : D) : Option D := (inD x y).bind fun b => some (.bl (!b))
def oIsN (x : D) : Option D := some (.bl (isNonD x))
def oIsNotN (x : D) : Option D := some (.bl (!isNonD x))
def oIx : D → D → Option D
  | .lst l, .int i => match atD l i with | some v => some v | none => none
  | .tup l, .int i => match atD l i with | some v => some v | none => none
  | .scr l, .int i => match atD l i with | some v => some (.int v) | none => none
  | .str s, .int i => if s.length ≤ lineD then (match atD s.cps.toList i with | some c => some (.str ⟨#[c]⟩) | none => none) else none
  | .dct ks vs, .str s => match lookD ks vs s with | some v => some v | none => none
  | _, _ => none
def oSl (lo hi : Option Int) : D → Option D
  | .lst l => some (.lst (cutD l lo hi))
  | .tup l => some (.tup (cutD l lo hi))
  | .str s => if s.length ≤ lineD then some (.str ⟨(cutD s.cps.toList lo hi).toArray⟩) else none
  | _ => none
def oFld (f : Str) : D → Option D
  | .obj _ ks vs => match lookD ks vs f with | some v => some v | none => none
  | _ => none
def oNeg : D → Option D
  | .int i => some (.int (-i))
  | _ => none
def oLen : D → Option D
  | .lst l => some (.int l.length)
  | .tup l => some (.int l.length)
  | .scr l => some (.int l.length)
  | .str s => if s.length ≤ lineD then some (.int s.length) else none
  | _ => none
def oInt : D → Option D
  | .int i => some (.int i)
  | .bl b => some (.int (if b then 1 else 0))
  | _ => none
def oAbs : D → Option D
  | .int i => some (.int (if i < 0 then -i else i))
  | _ => none
def intsD : List D → Option (List Int)
  | [] => some []
  | .int i :: l => (intsD l).map (i :: ·)
  | _ :: _ => none
def strsD : List D → Option (List Str)
  | [] => some []
  | .str i :: l => (strsD l).map (i :: ·)
  | _ :: _ => none
def oSum : D → Option D
  | .lst l => match intsD l with | some ns => some (.int ns.sum) | none => none
  | .scr ns => some (.int ns.sum)
  | _ => none
/-- isinstance(x, T), T a built-in class of these -/
def oIsi (t : String) : D → Option D
  | .bl _ => if t = "bool" ∨ t = "int" then some (.bl true) else if t = "str" ∨ t = "tuple" ∨ t = "list" then some (.bl false) else none
  | .int _ => if t = "int" then some (.bl true) else if t = "bool" ∨ t = "str" ∨ t = "tuple" ∨ t = "list" then some (.bl false) else none
  | .str _ => if t = "str" then some (.bl true) else if t = "bool" ∨ t = "int" ∨ t = "tuple" ∨ t = "list" then some (.bl false) else none
  | .tup _ => if t = "tuple" then some (.bl true) else if t = "bool" ∨ t = "int" ∨ t = "str" ∨ t = "list" then some (.bl false) else none
  | .lst _ => if t = "list" then some (.bl true) else if t = "bool" ∨ t = "int" ∨ t = "str" ∨ t = "tuple" then some (.bl false) else none
  | .non => if t = "bool" ∨ t = "int" ∨ t = "str" ∨ t = "tuple" ∨ t = "list" then some (.bl false) else none
  | _ => none
def oMax : D → D → Option D
  | .int i, .int j => some (.int (if j > i then j else i))
  | _, _ => none
def oList : D → Option D
  | .lst l => some (.lst l)
  | .tup l => some (.lst l)
  | _ => none
def oTuple : D → Option D
  | .lst l => some (.tup l)
  | .tup l => some (.tup l)
  | _ => none
/-- truth -/
def truD : D → Option Bool
  | .non => some false
  | .bl b => some b
  | .int i => some (i != 0)
  | .str s => if s.length ≤ lineD then some ((s.length : Int) != 0) else none
  | .lst l => some (!l.isEmpty)
  | .tup l => some (!l.isEmpty)
  | .dct ks _ => some (!ks.isEmpty)
  | _ => none
/-- what a for or a comprehension walks -/
def iterD : D → Option (List D)
  | .lst l => some l
  | .tup l => some l
  | .str s => some (s.cps.toList.map fun c => .str ⟨#[c]⟩)
  | _ => none
def rngOk (n : Int) : Prop := -(2 ^ 62) ≤ n ∧ n < 2 ^ 62
instance (n : Int) : Decidable (rngOk n) := by unfold rngOk; infer_instance
theorem rngOk_of {n : Int} (h : 0 ≤ n) (k : n < 1000000000) : rngOk n := by unfold rngOk; omega
def rangeD (n : Int) : List D := (List.range n.toNat).map fun i => .int (Int.ofNat i)
def eVar (i : Nat) : DE := fun ρ => match ρ[i]? with
  | some (some (.val d)) => .ok d
  | some (some (.pin d)) => .ok d
  | _ => .no
/-- a name that is only looked at (its container may be the def's own) -/
def eLook (i : Nat) : DE := fun ρ => match ρ[i]? with
  | some (some (.val d)) => .ok d
  | some (some (.own d)) => .ok d
  | some (some (.pin d)) => .ok d
  | _ => .no
def eC (d : D) : DE := fun _ => .ok d
def e1 (f : D → Option D) (a : DE) : DE := fun ρ => (a ρ).bind fun x => R.of (f x)
def e2 (f : D → D → Option D) (a b : DE) : DE := fun ρ => (a ρ).bind fun x => (b ρ).bind fun y => R.of (f x y)
abbrev DO := DEnv → R (Option Int)
def xNone : DO := fun _ => .ok none
def xSome (e : DE) : DO := fun ρ => (e ρ).bind fun x => match x with | .int i => .ok (some i) | _ => .no
def eSl (a : DE) (lo hi : DO) : DE := fun ρ => (a ρ).bind fun x => (lo ρ).bind fun l => (hi ρ).bind fun h => R.of (oSl l h x)
def eIf (c : DT) (a b : DE) : DE := fun ρ => (c ρ).bind fun k => if k then a ρ else b ρ
def eAnd (a b : DE) : DE := fun ρ => (a ρ).bind fun x => match x with | .bl true => b ρ | .bl false => .ok (.bl false) | _ => .no
def eOr (a b : DE) : DE := fun ρ => (a ρ).bind fun x => match x with | .bl false => b ρ | .bl true => .ok (.bl true) | _ => .no
def eNot (a : DE) : DE := fun ρ => (a ρ).bind fun x => match x with | .bl k => .ok (.bl (!k)) | _ => .no
def aNil : DA := fun _ => .ok []
def aCons (a : DE) (as : DA) : DA := fun ρ => (a ρ).bind fun x => (as ρ).bind fun xs => .ok (x :: xs)
def eCall (f : List D → R D) (as : DA) : DE := fun ρ => (as ρ).bind f
/-- o.m(..), o an object of a class of cs -/
def eMeth (cs : List String) (f : List D → R D) (o : DE) (as : DA) : DE := fun ρ => (o ρ).bind fun x => match x with
  | .obj c ks vs => if c ∈ cs then (as ρ).bind fun xs => f (.obj c ks vs :: xs) else .no
  | _ => .no
def eTup (as : DA) : DE := fun ρ => (as ρ).bind fun xs => if xs.length ≤ lineD then .ok (.tup xs) else .no
def eLst (as : DA) : DE := fun ρ => (as ρ).bind fun xs => if xs.length ≤ lineD then .ok (.lst xs) else .no
def iOf (a : DE) : DI := fun ρ => (a ρ).bind fun x => R.of (iterD x)
def rngR (x : D) : R (List D) := match x with | .int n => if rngOk n then .ok (rangeD n) else .no | _ => .no
theorem rngR_ok {n : Int} (h : rngOk n) : rngR (.int n) = .ok (rangeD n) := if_pos h
def iRange (a : DE) : DI := fun ρ => (a ρ).bind rngR
/-- a comprehension's turns; an exception within is not served -/
def compL (g : DG) (c : DT) (e : DE) (ρ : DEnv) : List D → R (List D)
  | [] => .ok []
  | x :: xs => match g x ρ with
    | .ok ρ' => match c ρ' with
      | .ok true => match e ρ' with
        | .ok y => match compL g c e ρ xs with
          | .ok ys => .ok (y :: ys)
          | _ => .no
        | _ => .no
      | .ok false => compL g c e ρ xs
      | _ => .no
    | _ => .no
/-- the block's own names, forgotten -/
def okW (vs : List Nat) (ρ : DEnv) : Bool := vs.all fun v => match ρ[v]? with
  | some none => true
  | some (some (.val _)) => true
  | _ => false
def wipD (vs : List Nat) (ρ : DEnv) : DEnv := vs.foldr (fun v r => r.set v none) ρ
def eComp (it : DI) (vs : List Nat) (g : DG) (c : DT) (e : DE) : DE := fun ρ => (it ρ).bind fun l => if l.length ≤ lineD ∧ okW vs ρ = true then (compL g c e (wipD vs ρ) l).bind fun ys => .ok (.lst ys) else .no
def tYesD : DT := fun _ => .ok true
def tVal (a : DE) : DT := fun ρ => (a ρ).bind fun x => match x with | .bl k => .ok k | _ => .no
def tTru (a : DE) : DT := fun ρ => (a ρ).bind fun x => R.of (truD x)
def tAndD (a b : DT) : DT := fun ρ => (a ρ).bind fun k => if k then b ρ else .ok false
def tOrD (a b : DT) : DT := fun ρ => (a ρ).bind fun k => if k then .ok true else b ρ
def tNotD (a : DT) : DT := fun ρ => (a ρ).bind fun k => .ok (!k)
/-- the name gets a value -/
def setV (i : Nat) (d : D) (ρ : DEnv) : R DEnv := match ρ[i]? with
  | some (some (.slf _)) => .no
  | some (some (.gho _)) => .no
  | some _ => .ok (ρ.set i (some (.val d)))
  | none => .no
def setO (i : Nat) (d : D) (ρ : DEnv) : R DEnv := match ρ[i]? with
  | some (some (.slf _)) => .no
  | some (some (.gho _)) => .no
  | some _ => .ok (ρ.set i (some (.own d)))
  | none => .no
def gVar (i : Nat) : DG := setV i
def gVars : List Nat → List D → DEnv → R DEnv
  | [], [], ρ => .ok ρ
  | i :: is, d :: ds, ρ => (setV i d ρ).bind fun ρ' => gVars is ds ρ'
  | _, _, _ => .no
def gTupD (is : List Nat) : DG := fun d ρ => match d with | .tup l => gVars is l ρ | _ => .no
/-- an exception out of an expression leaves the statement -/
def R.st {α : Type} (r : R α) (ρ : DEnv) (f : α → R Out) : R Out := match r with
  | .ok a => f a
  | .ex e => .ok (.xx e ρ)
  | .no => .no
@[simp] theorem R.st_ok {α : Type} (a : α) (ρ : DEnv) (f : α → R Out) : (R.ok a).st ρ f = f a := rfl
@[simp] theorem R.st_ex {α : Type} (e : Ex) (ρ : DEnv) (f : α → R Out) : (R.ex e : R α).st ρ f = .ok (.xx e ρ) := rfl
@[simp] theorem R.st_no {α : Type} (ρ : DEnv) (f : α → R Out) : (R.no : R α).st ρ f = .no := rfl
def sNext : DS := fun ρ => .ok (.nx ρ)
def sBrk : DS := fun ρ => .ok (.bk ρ)
def sCnt : DS := fun ρ => .ok (.ct ρ)
def sSeq (a b : DS) : DS := fun ρ => match a ρ with
  | .ok (.nx ρ') => b ρ'
  | r => r
def sSet (i : Nat) (e : DE) : DS := fun ρ => (e ρ).st ρ fun d => (setV i d ρ).bind fun ρ' => .ok (.nx ρ')
/-- the name gets a new container of its own -/
def sOwn (i : Nat) (e : DE) : DS := fun ρ => (e ρ).st ρ fun d => (setO i d ρ).bind fun ρ' => .ok (.nx ρ')
/-- the container is given out: from here on it stands -/
def frzD (i : Nat) (ρ : DEnv) : DEnv := match ρ[i]? with
  | some (some (.own d)) => ρ.set i (some (.val d))
  | _ => ρ
def sFrz (is : List Nat) (a : DS) : DS := fun ρ => a (is.foldl (fun r i => frzD i r) ρ)
/-- names that are dead are forgotten -/
def clr1 (i : Nat) (ρ : DEnv) : DEnv := match ρ[i]? with
  | some (some (.val _)) => ρ.set i none
  | some (some (.own _)) => ρ.set i none
  | _ => ρ
def clrD (is : List Nat) (ρ : DEnv) : DEnv := is.foldl (fun r i => clr1 i r) ρ
def sClr (is : List Nat) : DS := fun ρ => .ok (.nx (clrD is ρ))
def sAsg (e : DE) (g : DG) : DS := fun ρ => (e ρ).st ρ fun d => (g d ρ).bind fun ρ' => .ok (.nx ρ')
def sDrop (e : DE) : DS := fun ρ => (e ρ).st ρ fun _ => .ok (.nx ρ)
def sRet (e : DE) : DS := fun ρ => (e ρ).st ρ fun d => .ok (.rt d ρ)
def sRetN : DS := fun ρ => .ok (.rt .non ρ)
def sIf (c : DT) (a b : DS) : DS := fun ρ => (c ρ).st ρ fun k => if k then a ρ else b ρ
def forL (g : DG) (cl : List Nat) (b : DS) : List D → DEnv → R Out
  | [], ρ => .ok (.nx ρ)
  | x :: xs, ρ => match (g x ρ).bind b with
    | .ok (.nx ρ') => forL g cl b xs (clrD cl ρ')
    | .ok (.ct ρ') => forL g cl b xs (clrD cl ρ')
    | .ok (.bk ρ') => .ok (.nx ρ')
    | r => r
def sFor (it : DI) (g : DG) (cl : List Nat) (b : DS) : DS := fun ρ => (it ρ).st ρ fun l => forL g cl b l (clrD cl ρ)
def whileL (c : DT) (cl : List Nat) (b : DS) : Nat → DEnv → R Out
  | 0, _ => .no
  | n + 1, ρ => (c ρ).st ρ fun k => if k then (match b ρ with
    | .ok (.nx ρ') => whileL c cl b n (clrD cl ρ')
    | .ok (.ct ρ') => whileL c cl b n (clrD cl ρ')
    | .ok (.bk ρ') => .ok (.nx ρ')
    | r => r) else .ok (.nx ρ)
def sWhile (n : Nat) (c : DT) (cl : List Nat) (b : DS) : DS := fun ρ => whileL c cl b n (clrD cl ρ)
/-- x.append(e), x the def's own list -/
def sApp (i : Nat) (e : DE) : DS := fun ρ => match ρ[i]? with
  | some (some (.own (.lst l))) => (e ρ).st ρ fun y => if l.length < lineD then .ok (.nx (ρ.set i (some (.own (.lst (l ++ [y])))))) else .no
  | _ => .no
def sClear (i : Nat) : DS := fun ρ => match ρ[i]? with
  | some (some (.own (.lst _))) => .ok (.nx (ρ.set i (some (.own (.lst [])))))
  | _ => .no
def sPutD (i : Nat) (k e : DE) : DS := fun ρ => (e ρ).st ρ fun v => match ρ[i]? with
  | some (some (.own (.dct ks vs))) => (k ρ).st ρ fun x => match x with
    | .str s => if ks.length < lineD then .ok (.nx (ρ.set i (some (.own (.dct (dPutK s ks) (dPutV s v ks vs)))))) else .no
    | _ => .no
  | _ => .no
/-- x[k] = e, x the def's own list -/
def sPutL (i : Nat) (k e : DE) : DS := fun ρ => (e ρ).st ρ fun v => match ρ[i]? with
  | some (some (.own (.lst l))) => (k ρ).st ρ fun x => match x with
    | .int j => if 0 ≤ j ∧ j < l.length then .ok (.nx (ρ.set i (some (.own (.lst (l.set j.toNat v)))))) else .no
    | _ => .no
  | _ => .no
/-- x[k] += e, x the def's own dict, ints -/
def sPutAdd (i : Nat) (k e : DE) : DS := fun ρ => match ρ[i]? with
  | some (some (.own (.dct ks vs))) => (k ρ).st ρ fun x => match x with
    | .str s => match lookD ks vs s with
      | some (.int a) => (e ρ).st ρ fun v => match v with
        | .int b => if ks.length < lineD then .ok (.nx (ρ.set i (some (.own (.dct (dPutK s ks) (dPutV s (.int (a + b)) ks vs)))))) else .no
        | _ => .no
      | _ => .no
    | _ => .no
  | _ => .no
/-- x = y.pop(), y the def's own list -/
def sPop (i j : Nat) : DS := fun ρ => match ρ[j]? with
  | some (some (.own (.lst l))) => match l.getLast? with
    | some x => (setV i x (ρ.set j (some (.own (.lst l.dropLast))))).bind fun ρ' => .ok (.nx ρ')
    | none => .no
  | _ => .no
def sAug (i : Nat) (f : D → D → Option D) (e : DE) : DS := fun ρ => match ρ[i]? with
  | some (some (.val x)) => (e ρ).st ρ fun y => match f x y with
    | some z => (setV i z ρ).bind fun ρ' => .ok (.nx ρ')
    | none => .no
  | _ => .no
/-- self.f = e -/
def putF (f : Str) (v : D) : D → Option D
  | .obj c ks vs => if ks.length < 999 ∧ f ∈ fldOf c then some (.obj c (putDk f ks) (putDv f v ks vs)) else none
  | _ => none
def sFld (i : Nat) (f : Str) (e : DE) : DS := fun ρ => (e ρ).st ρ fun v => match ρ[i]? with
  | some (some (.slf d)) => match putF f v d with
    | some d' => .ok (.nx (ρ.set i (some (.slf d'))))
    | _ => .no
  | _ => .no
/-- raise cn(..), its fields fs -/
def sRaise (cn : String) (fs : List Str) (as : DA) : DS := fun ρ => (as ρ).st ρ fun xs => if xs.length = fs.length then .ok (.xx ⟨cn, fs.reverse, xs.reverse⟩ ρ) else .no
def envD (n : Nat) (ds : List D) : DEnv := ds.map (fun d => some (.val d)) ++ List.replicate (n - ds.length) none
/-- a def's meaning: n names, the parameters first -/
def defD (n p : Nat) (b : DS) (ds : List D) : R D := if ds.length = p then (match b (envD n ds) with
  | .ok (.rt d _) => .ok d
  | .ok (.nx _) => .ok .non
  | .ok (.xx e _) => .ex e
  | _ => .no) else .no
/-- no field of the object waits for a container of its own -/
def noGst : List D → Bool
  | [] => true
  | .gst _ :: _ => false
  | _ :: l => noGst l
/-- an __init__'s meaning, the object under construction whole at its end -/
def slfP (ρ : DEnv) (d : D) : R (D × D) := match ρ with
  | some (.slf (.obj c ks l)) :: _ => if noGst l then .ok (d, .obj c ks l) else .no
  | _ => .no
def initP (n p : Nat) (b : DS) (s : D) (ds : List D) : R (D × D) := if ds.length + 1 = p then (match b (some (.slf s) :: envD (n - 1) ds) with
  | .ok (.rt d ρ) => slfP ρ d
  | .ok (.nx ρ) => slfP ρ .non
  | .ok (.xx e _) => .ex e
  | _ => .no) else .no
/-- C(..) -/
def mkD (c : String) (init : D → List D → R (D × D)) (ds : List D) : R D := (init (.obj c [] []) ds).bind fun p => match p.1 with
  | .non => .ok p.2
  | _ => .no
end Tw

set_option maxHeartbeats 2000000
namespace Tw
open PySem PySem.Spec L2
open PyProof.Rows hiding St
def KTup (K : PySem.W.Frag) (a : Addr) (xs : List V) : Prop := ∃ (o : Obj) (its : Array Value) (n : Nat), K.lookup a = some o ∧ o.cls = .type "tuple" ∧ o.data = .seq its n ∧ its.size ≤ sizeLine ∧ Vals xs its.toList
def KLst (K : PySem.W.Frag) (a : Addr) (xs : List V) : Prop := ∃ (o : Obj) (its : Array Value) (n : Nat), K.lookup a = some o ∧ o.cls = .type "list" ∧ o.dict = none ∧ o.data = .seq its n ∧ its.size ≤ sizeLine ∧ Vals xs its.toList
structure Gc where
  K : PySem.W.Frag
  cm : String → Addr
  has : String → Prop
  cls : ∀ c, has c → Cls K (cm c)
  noat : ∀ c f, has c → f ∈ fldOf c → NoAttr K (cm c) f
def OkO (G : Gc) (c : String) (ks : List Str) : Prop := G.has c ∧ ∀ f ∈ ks, f ∈ fldOf c
def sKeys : List Str → List V → List (Key × V)
  | k :: ks, v :: vs => (Sum.inr k, v) :: sKeys ks vs
  | _, _ => []
def fKeys : List Str → List V → List (Str × V)
  | k :: ks, v :: vs => (k, v) :: fKeys ks vs
  | _, _ => []
mutual
/-- the value v stands for the data d; what it leans on is not in Z -/
def Rep (G : Gc) (Z : Addr → Prop) (H : Hp) : D → V → Prop
  | .non, v => v = .non
  | .bl b, v => v = .bl b
  | .int i, v => v = .int i
  | .str s, v => v = .str s
  | .cls n, v => v = .ref (G.cm n)
  | .gst _, _ => False
  | .scr ns, v => ∃ a, v = .ref a ∧ ((¬ Z a ∧ Rd H a (.lst (ns.map V.int))) ∨ KLst G.K a (ns.map V.int))
  | .tup l, v => ∃ a vs, v = .ref a ∧ ((¬ Z a ∧ H a = some (.tup vs)) ∨ KTup G.K a vs) ∧ RepL G Z H l vs
  | .lst l, v => ∃ a vs, v = .ref a ∧ ¬ Z a ∧ H a = some (.lst vs) ∧ RepL G Z H l vs
  | .dct ks l, v => ∃ a vs, v = .ref a ∧ ¬ Z a ∧ H a = some (.dK (sKeys ks vs)) ∧ ks.length = vs.length ∧ RepL G Z H l vs
  | .obj c ks l, v => ∃ a dx vs, v = .ref a ∧ ¬ Z a ∧ H a = some (.ins (G.cm c) dx (fKeys ks vs)) ∧ (ks.length = vs.length ∧ OkO G c ks) ∧ RepL G Z H l vs
def RepL (G : Gc) (Z : Addr → Prop) (H : Hp) : List D → List V → Prop
  | [], vs => vs = []
  | d :: ds, vs => ∃ v r, vs = v :: r ∧ Rep G Z H d v ∧ RepL G Z H ds r
end
/-- H' has all of H that is not in Z -/
def Sub (Z : Addr → Prop) (H H' : Hp) : Prop := ∀ a o, ¬ Z a → H a = some o → H' a = some o
theorem Same.sub {Z : Addr → Prop} {H H' : Hp} (s : Same H H') : Sub Z H H' := fun a o _ h => s a o h
mutual
theorem Rep.mono {G : Gc} {Z Z' : Addr → Prop} {H H' : Hp} (s : Sub Z H H') (z : ∀ a, Z' a → Z a ∨ H a = none) : ∀ {d : D} {v : V}, Rep G Z H d v → Rep G Z' H' d v
  | .non, v, h => h
  | .bl b, v, h => h
  | .int i, v, h => h
  | .str x, v, h => h
  | .cls n, v, h => h
  | .gst j, v, h => h.elim
  | .scr ns, v, h => by
    obtain ⟨a, e, h⟩ := h
    rcases h with ⟨n, h | ⟨o, h⟩⟩ | h
    · exact ⟨a, e, .inl ⟨fun q => (z a q).elim n (fun q => by rw [q] at h; cases h), .inl (s a _ n h)⟩⟩
    · exact ⟨a, e, .inl ⟨fun q => (z a q).elim n (fun q => by rw [q] at h; cases h), .inr ⟨o, s a _ n h⟩⟩⟩
    · exact ⟨a, e, .inr h⟩
  | .tup l, v, h => by
    obtain ⟨a, vs, e, t, r⟩ := h
    refine ⟨a, vs, e, ?_, RepL.mono s z r⟩
    rcases t with ⟨n, t⟩ | t
    · exact .inl ⟨fun q => (z a q).elim n (fun q => by rw [q] at t; cases t), s a _ n t⟩
    · exact .inr t
  | .lst l, v, h => by
    obtain ⟨a, vs, e, n, t, r⟩ := h
    exact ⟨a, vs, e, fun q => (z a q).elim n (fun q => by rw [q] at t; cases t), s a _ n t, RepL.mono s z r⟩
  | .dct ks l, v, h => by
    obtain ⟨a, vs, e, n, t, k, r⟩ := h
    exact ⟨a, vs, e, fun q => (z a q).elim n (fun q => by rw [q] at t; cases t), s a _ n t, k, RepL.mono s z r⟩
  | .obj c ks l, v, h => by
    obtain ⟨a, dx, vs, e, n, t, k, r⟩ := h
    exact ⟨a, dx, vs, e, fun q => (z a q).elim n (fun q => by rw [q] at t; cases t), s a _ n t, k, RepL.mono s z r⟩
theorem RepL.mono {G : Gc} {Z Z' : Addr → Prop} {H H' : Hp} (s : Sub Z H H') (z : ∀ a, Z' a → Z a ∨ H a = none) : ∀ {ds : List D} {vs : List V}, RepL G Z H ds vs → RepL G Z' H' ds vs
  | [], vs, h => h
  | d :: ds, vs, h => by
    obtain ⟨v, r, e, h1, h2⟩ := h
    exact ⟨v, r, e, Rep.mono s z h1, RepL.mono s z h2⟩
end
section
variable {G : Gc} {Z Z' : Addr → Prop} {H H' : Hp}
theorem Rep.same (s : Same H H') {d : D} {v : V} (h : Rep G Z H d v) : Rep G Z H' d v := Rep.mono (Same.sub s) (fun _ q => .inl q) h
theorem RepL.same (s : Same H H') {d : List D} {v : List V} (h : RepL G Z H d v) : RepL G Z H' d v := RepL.mono (Same.sub s) (fun _ q => .inl q) h
theorem Rep.weak (z : ∀ a, Z' a → Z a) {d : D} {v : V} (h : Rep G Z H d v) : Rep G Z' H d v := Rep.mono (fun _ _ _ h => h) (fun a q => .inl (z a q)) h
theorem RepL.weak (z : ∀ a, Z' a → Z a) {d : List D} {v : List V} (h : RepL G Z H d v) : RepL G Z' H d v := RepL.mono (fun _ _ _ h => h) (fun a q => .inl (z a q)) h
theorem RepL.length : ∀ {ds : List D} {vs : List V}, RepL G Z H ds vs → ds.length = vs.length
  | [], vs, h => by rw [show vs = [] from h]; rfl
  | d :: ds, vs, h => by
    obtain ⟨v, r, e, _, h2⟩ := h
    rw [e, List.length_cons, List.length_cons, RepL.length h2]
theorem RepL.get : ∀ {ds : List D} {vs : List V} {i : Nat} {d : D}, RepL G Z H ds vs → ds[i]? = some d → ∃ v, vs[i]? = some v ∧ Rep G Z H d v
  | [], vs, i, d, h, e => by simp at e
  | d' :: ds, vs, 0, d, h, e => by
    obtain ⟨v, r, rfl, h1, _⟩ := h
    simp at e
    subst e
    exact ⟨v, rfl, h1⟩
  | d' :: ds, vs, i + 1, d, h, e => by
    obtain ⟨v, r, rfl, _, h2⟩ := h
    obtain ⟨u, e1, e2⟩ := RepL.get (i := i) h2 (by simpa using e)
    exact ⟨u, by simpa using e1, e2⟩
theorem RepL.append : ∀ {ds es : List D} {vs us : List V}, RepL G Z H ds vs → RepL G Z H es us → RepL G Z H (ds ++ es) (vs ++ us)
  | [], es, vs, us, h, k => by rw [show vs = [] from h]; exact k
  | d :: ds, es, vs, us, h, k => by
    obtain ⟨v, r, rfl, h1, h2⟩ := h
    exact ⟨v, r ++ us, rfl, h1, RepL.append h2 k⟩
theorem RepL.take : ∀ {ds : List D} {vs : List V} (n : Nat), RepL G Z H ds vs → RepL G Z H (ds.take n) (vs.take n)
  | ds, vs, 0, _ => by simp [RepL]
  | [], vs, n + 1, h => by rw [show vs = [] from h]; simp [RepL]
  | d :: ds, vs, n + 1, h => by
    obtain ⟨v, r, rfl, h1, h2⟩ := h
    exact ⟨v, r.take n, rfl, h1, RepL.take n h2⟩
theorem RepL.drop : ∀ {ds : List D} {vs : List V} (n : Nat), RepL G Z H ds vs → RepL G Z H (ds.drop n) (vs.drop n)
  | ds, vs, 0, h => h
  | [], vs, n + 1, h => by rw [show vs = [] from h]; simp [RepL]
  | d :: ds, vs, n + 1, h => by
    obtain ⟨v, r, rfl, h1, h2⟩ := h
    exact RepL.drop n h2
theorem RepL.set : ∀ {ds : List D} {vs : List V} {d : D} {v : V} (n : Nat), RepL G Z H ds vs → Rep G Z H d v → RepL G Z H (ds.set n d) (vs.set n v)
  | [], vs, _, _, n, h, _ => by rw [show vs = [] from h]; simp [RepL]
  | d :: ds, vs, e, w, 0, h, k => by
    obtain ⟨v, r, rfl, h1, h2⟩ := h
    exact ⟨w, r, rfl, k, h2⟩
  | d :: ds, vs, e, w, n + 1, h, k => by
    obtain ⟨v, r, rfl, h1, h2⟩ := h
    exact ⟨v, r.set n w, rfl, h1, RepL.set n h2 k⟩
theorem RepL.one {d : D} {v : V} (h : Rep G Z H d v) : RepL G Z H [d] [v] := ⟨v, [], rfl, h, rfl⟩
theorem RepL.cons {d : D} {v : V} {ds : List D} {vs : List V} (h : Rep G Z H d v) (t : RepL G Z H ds vs) : RepL G Z H (d :: ds) (v :: vs) := ⟨v, vs, rfl, h, t⟩
theorem RepL.nil : RepL G Z H [] [] := rfl
end
/-- a container, its items; it may be anybody's -/
def RepW (G : Gc) (Z : Addr → Prop) (H : Hp) (d : D) (v : V) : Prop := match d with
  | .lst l => ∃ a vs, v = .ref a ∧ H a = some (.lst vs) ∧ RepL G Z H l vs
  | .dct ks l => ∃ a vs, v = .ref a ∧ H a = some (.dK (sKeys ks vs)) ∧ ks.length = vs.length ∧ RepL G Z H l vs
  | .obj c ks l => ∃ a dx vs, v = .ref a ∧ H a = some (.ins (G.cm c) dx (fKeys ks vs)) ∧ (ks.length = vs.length ∧ OkO G c ks) ∧ RepL G Z H l vs
  | d => Rep G Z H d v
theorem Rep.w {G : Gc} {Z : Addr → Prop} {H : Hp} {d : D} {v : V} (h : Rep G Z H d v) : RepW G Z H d v := by
  cases d with
  | lst l => obtain ⟨a, vs, e, _, t, r⟩ := h; exact ⟨a, vs, e, t, r⟩
  | dct ks l => obtain ⟨a, vs, e, _, t, k, r⟩ := h; exact ⟨a, vs, e, t, k, r⟩
  | obj c ks l => obtain ⟨a, dx, vs, e, _, t, k, r⟩ := h; exact ⟨a, dx, vs, e, t, k, r⟩
  | _ => exact h
theorem RepW.same {G : Gc} {Z : Addr → Prop} {H H' : Hp} (s : Same H H') {d : D} {v : V} (h : RepW G Z H d v) : RepW G Z H' d v := by
  cases d with
  | lst l => obtain ⟨a, vs, e, t, r⟩ := h; exact ⟨a, vs, e, s _ _ t, r.same s⟩
  | dct ks l => obtain ⟨a, vs, e, t, k, r⟩ := h; exact ⟨a, vs, e, s _ _ t, k, r.same s⟩
  | obj c ks l => obtain ⟨a, dx, vs, e, t, k, r⟩ := h; exact ⟨a, dx, vs, e, s _ _ t, k, r.same s⟩
  | _ => exact Rep.same s h
/-- an exception's class and its own dict -/
def ExRep (G : Gc) (Z : Addr → Prop) (H : Hp) (e : Ex) (c : Value) (od : Option Addr) : Prop :=
  c = .ref (G.cm e.cls) ∧ ∃ d vs, od = some d ∧ H d = some (.xd (fKeys e.ks vs)) ∧ e.ks.length = vs.length ∧ RepL G Z H e.vs vs
def isOwn (ρ : DEnv) (i : Nat) : Prop := ∃ d, ρ[i]? = some (some (.own d)) ∨ ρ[i]? = some (some (.slf d)) ∨ ρ[i]? = some (some (.gho d))
def Zo (Ze O : Addr → Prop) (a : Addr) : Prop := Ze a ∨ O a
/-- a field of the object under construction -/
def RepG (G : Gc) (Z : Addr → Prop) (α : Nat → Addr) (ρ : DEnv) (H : Hp) (d : D) (v : V) : Prop := match d with
  | .gst j => v = .ref (α j) ∧ ∃ d', ρ[j]? = some (some (.gho d'))
  | d => Rep G Z H d v
def RepGL (G : Gc) (Z : Addr → Prop) (α : Nat → Addr) (ρ : DEnv) (H : Hp) : List D → List V → Prop
  | [], vs => vs = []
  | d :: ds, vs => ∃ v r, vs = v :: r ∧ RepG G Z α ρ H d v ∧ RepGL G Z α ρ H ds r
/-- the context of a def's reading: Ze what may not be leaned on, sa the object under construction, E what is wanted of an exception -/
structure Cy where
  G : Gc
  Ze : Addr → Prop
  sa : Addr
  E : WX
  lv : Nat
  n : Nat
  ca : Bool
  pt : Nat → V
/-- the names that are pinned to their pointers: what they hold is hidden, or may be read -/
def PtrOk (Y : Cy) (O : Addr → Prop) (ρ : DEnv) (σ : St) (H : Hp) : Prop := (∀ (i : Nat), ρ[i]? = some (some Slot.ptr) → σ[i]? = some (some (Y.pt i))) ∧ ∀ (i : Nat) (d : D), ρ[i]? = some (some (Slot.pin d)) → σ[i]? = some (some (Y.pt i)) ∧ Rep Y.G (Zo Y.Ze O) H d (Y.pt i)
theorem PtrOk.to {Y Y' : Cy} {O O' : Addr → Prop} {ρ ρ' : DEnv} {σ σ' : St} {H H' : Hp} (h : PtrOk Y O ρ σ H) (r : ∀ d v, Rep Y.G (Zo Y.Ze O) H d v → Rep Y'.G (Zo Y'.Ze O') H' d v) (k : ∀ (i : Nat) (x : Slot), ρ'[i]? = some (some x) → (x = .ptr ∨ ∃ d, x = .pin d) → ρ[i]? = some (some x) ∧ σ'[i]? = σ[i]?) (hp : Y'.pt = Y.pt := by rfl) : PtrOk Y' O' ρ' σ' H' :=
  ⟨fun i e => by obtain ⟨a, b⟩ := k i _ e (.inl rfl); rw [b, hp]; exact h.1 i a, fun i d e => by obtain ⟨a, b⟩ := k i _ e (.inr ⟨d, rfl⟩); rw [b, hp]; exact ⟨(h.2 i d a).1, r _ _ (h.2 i d a).2⟩⟩
theorem PtrOk.m {Y Y' : Cy} {O O' : Addr → Prop} {ρ : DEnv} {σ : St} {H H' : Hp} (h : PtrOk Y O ρ σ H) (r : ∀ d v, Rep Y.G (Zo Y.Ze O) H d v → Rep Y'.G (Zo Y'.Ze O') H' d v) (hp : Y'.pt = Y.pt := by rfl) : PtrOk Y' O' ρ σ H' := h.to r (fun _ _ e _ => ⟨e, rfl⟩) hp
structure SRa (Y : Cy) (O : Addr → Prop) (α : Nat → Addr) (ρ : DEnv) (σ : St) (H : Hp) : Prop where
  len : σ.length = Y.n ∧ Y.n ≤ ρ.length
  val : ∀ (i : Nat) (d : D), ρ[i]? = some (some (Slot.val d)) → ∃ v, σ[i]? = some (some v) ∧ Rep Y.G (Zo Y.Ze O) H d v
  own : ∀ (i : Nat) (d : D), ρ[i]? = some (some (Slot.own d)) → σ[i]? = some (some (.ref (α i))) ∧ ¬ Y.Ze (α i) ∧ RepW Y.G (Zo Y.Ze O) H d (.ref (α i))
  slf : ∀ (i : Nat) (d : D), ρ[i]? = some (some (Slot.slf d)) → σ[i]? = some (some (.ref (α i))) ∧ α i = Y.sa ∧ ∃ c ks l dx vs, d = .obj c ks l ∧ H (α i) = some (.ins (Y.G.cm c) dx (fKeys ks vs)) ∧ (ks.length = vs.length ∧ OkO Y.G c ks) ∧ RepGL Y.G (Zo Y.Ze O) α ρ H l vs
  gho : ∀ (i : Nat) (d : D), ρ[i]? = some (some (Slot.gho d)) → RepW Y.G (Zo Y.Ze O) H d (.ref (α i)) ∧ Y.n ≤ i
  inj : ∀ (i j : Nat), isOwn ρ i → isOwn ρ j → α i = α j → i = j
  oeq : ∀ a, O a ↔ ∃ i, isOwn ρ i ∧ α i = a
  zt : ∀ a, Y.Ze a → H a ≠ none
  ot : ∀ a, O a → H a ≠ none
  ptr : PtrOk Y O ρ σ H
def SR (Y : Cy) (O : Addr → Prop) (ρ : DEnv) (σ : St) (H : Hp) : Prop := ∃ α, SRa Y O α ρ σ H
/-- what a step leaves: all but the def's own containers stand; own is what was own or is new -/
def Stp (O : Addr → Prop) (H : Hp) (O' : Addr → Prop) (H' : Hp) : Prop := (∀ a o, ¬ O a → H a = some o → H' a = some o) ∧ ∀ a, O' a → O a ∨ H a = none
theorem Stp.refl {O : Addr → Prop} {H : Hp} : Stp O H O H := ⟨fun _ _ _ h => h, fun _ h => .inl h⟩
theorem Stp.same {O : Addr → Prop} {H H' : Hp} (s : Same H H') : Stp O H O H' := ⟨fun a o _ h => s a o h, fun _ h => .inl h⟩
theorem Stp.trans {O O1 O2 : Addr → Prop} {H H1 H2 : Hp} (a : Stp O H O1 H1) (b : Stp O1 H1 O2 H2) : Stp O H O2 H2 := by
  refine ⟨fun c o n h => b.1 c o (fun q => ?_) (a.1 c o n h), fun c q => ?_⟩
  · rcases a.2 c q with k | k
    · exact n k
    · rw [k] at h; cases h
  · rcases b.2 c q with k | k
    · exact a.2 c k
    · by_cases hn : H c = none
      · exact .inr hn
      · obtain ⟨o, ho⟩ := Option.ne_none_iff_exists'.mp hn
        by_cases hO : O c
        · exact .inl hO
        · rw [a.1 c o hO ho] at k; cases k
section
variable {Y : Cy} {O : Addr → Prop} {ρ : DEnv} {σ : St} {H H' : Hp} {α : Nat → Addr}
theorem RepG.same (s : Same H H') {Z : Addr → Prop} {G : Gc} {d : D} {v : V} (h : RepG G Z α ρ H d v) : RepG G Z α ρ H' d v := by
  cases d with
  | gst j => exact h
  | _ => exact Rep.same s h
theorem RepGL.same (s : Same H H') {Z : Addr → Prop} {G : Gc} : ∀ {ds : List D} {vs : List V}, RepGL G Z α ρ H ds vs → RepGL G Z α ρ H' ds vs
  | [], vs, h => h
  | d :: ds, vs, h => by
    obtain ⟨v, r, e, h1, h2⟩ := h
    exact ⟨v, r, e, RepG.same s h1, RepGL.same s h2⟩
theorem SRa.same (h : SRa Y O α ρ σ H) (s : Same H H') : SRa Y O α ρ σ H' where
  len := h.len
  val := fun i d e => let ⟨v, e1, r⟩ := h.val i d e; ⟨v, e1, r.same s⟩
  own := fun i d e => let ⟨e1, n, r⟩ := h.own i d e; ⟨e1, n, r.same s⟩
  slf := fun i d e => let ⟨e1, n, c, ks, l, dx, vs, e2, e3, e4, r⟩ := h.slf i d e; ⟨e1, n, c, ks, l, dx, vs, e2, s _ _ e3, e4, r.same s⟩
  gho := fun i d e => let ⟨r, k⟩ := h.gho i d e; ⟨r.same s, k⟩
  inj := h.inj
  oeq := h.oeq
  zt := fun a z q => h.zt a z (s.free q)
  ot := fun a z q => h.ot a z (s.free q)
  ptr := h.ptr.m fun _ _ r => r.same s
theorem SR.same (h : SR Y O ρ σ H) (s : Same H H') : SR Y O ρ σ H' := let ⟨α, h⟩ := h; ⟨α, h.same s⟩
theorem SR.zt (h : SR Y O ρ σ H) : ∀ a, Zo Y.Ze O a → H a ≠ none := fun a z => let ⟨_, h⟩ := h; z.elim (h.zt a) (h.ot a)
end
def EPost (Y : Cy) (O : Addr → Prop) (σ : St) (H : Hp) (Q : VK) : R D → Prop
  | .ok d => ∀ v H', Same H H' → Rep Y.G (Zo Y.Ze O) H' d v → Q v H'
  | .ex e => ∀ c od H', Same H H' → ExRep Y.G (Zo Y.Ze O) H' e c od → Y.E c od σ H'
  | .no => False
def EPostW (Y : Cy) (O : Addr → Prop) (σ : St) (H : Hp) (Q : VK) : R D → Prop
  | .ok d => ∀ v H', Same H H' → RepW Y.G (Zo Y.Ze O) H' d v → Q v H'
  | .ex e => ∀ c od H', Same H H' → ExRep Y.G (Zo Y.Ze O) H' e c od → Y.E c od σ H'
  | .no => False
def APost (Y : Cy) (O : Addr → Prop) (σ : St) (H : Hp) (Q : List V → Hp → Prop) : R (List D) → Prop
  | .ok ds => ∀ vs H', Same H H' → RepL Y.G (Zo Y.Ze O) H' ds vs → Q vs H'
  | .ex e => ∀ c od H', Same H H' → ExRep Y.G (Zo Y.Ze O) H' e c od → Y.E c od σ H'
  | .no => False
def BPost (Y : Cy) (O : Addr → Prop) (σ : St) (H : Hp) (Q : Bool → Hp → Prop) : R Bool → Prop
  | .ok b => ∀ H', Same H H' → Q b H'
  | .ex e => ∀ c od H', Same H H' → ExRep Y.G (Zo Y.Ze O) H' e c od → Y.E c od σ H'
  | .no => False
def tD (Y : Cy) (f : DE) : TE := fun σ H Q => ∃ O ρ, SR Y O ρ σ H ∧ EPost Y O σ H Q (f ρ)
def tDw (Y : Cy) (f : DE) : TE := fun σ H Q => ∃ O ρ, SR Y O ρ σ H ∧ EPostW Y O σ H Q (f ρ)
def tDA (Y : Cy) (f : DA) : TA := fun σ H Q => ∃ O ρ, SR Y O ρ σ H ∧ APost Y O σ H Q (f ρ)
def tDT (Y : Cy) (f : DT) : TT := fun σ H Q => ∃ O ρ, SR Y O ρ σ H ∧ BPost Y O σ H Q (f ρ)
def SPost (Y : Cy) (O : Addr → Prop) (H : Hp) (N : Ends) : R Out → Prop
  | .ok (.nx ρ) => ∀ O' σ' H', Stp O H O' H' → SR Y O' ρ σ' H' → N.nx σ' H'
  | .ok (.bk ρ) => ∀ O' σ' H', Stp O H O' H' → SR Y O' ρ σ' H' → N.bk σ' H'
  | .ok (.ct ρ) => ∀ O' σ' H', Stp O H O' H' → SR Y O' ρ σ' H' → N.ct σ' H'
  | .ok (.rt d ρ) => ∀ O' σ' H' v, Stp O H O' H' → SR Y O' ρ σ' H' → Rep Y.G (Zo Y.Ze O') H' d v → N.rt v H'
  | .ok (.xx e ρ) => ∀ O' σ' H' c od, Stp O H O' H' → SR Y O' ρ σ' H' → ExRep Y.G (Zo Y.Ze O') H' e c od → Y.E c od σ' H'
  | .ex _ => False
  | .no => False
def tDS (Y : Cy) (F : DS) : TS := fun N σ H => ∃ O ρ, SR Y O ρ σ H ∧ SPost Y O H N (F ρ)
structure RoomL (k : Nat) (A : Around) : Prop where
  dp : A.depth + 3 * k + 5 < recursionLimit
  un : A.units + 16 * k + 200 < cLine
theorem Room.lo {k : Nat} {A : Around} (r : Room k A) : RoomL k A := ⟨r.dp, r.un⟩
theorem hu_L {A : Around} {k : Nat} (r : RoomL k A) : A.units + 1 < cLine := by have := r.un; omega
structure Lk (X : Cx) (Y : Cy) : Prop where
  K : X.K = Y.G.K
  ln : X.N.length = Y.n
  tk : Takes X Y.E
  rm : RoomL Y.lv X.A
  hd : Y.ca = true → X.A.handled = none
  nd : X.N.Nodup
  po : PassesOwn (model X.prog X.w) X.A X.env X.xe
  calm : Y.ca = true → X.calm = true
theorem Lk.room {X : Cx} {Y : Cy} (k : Lk X Y) (h : Y.ca = true) : Room Y.lv X.A := ⟨k.hd h, k.rm.dp, k.rm.un⟩
def PD (X : Cx) (Y : Cy) (e : Expr) (f : DE) : Prop := Lk X Y → PE X e (tD Y f)
def PDw (X : Cx) (Y : Cy) (e : Expr) (f : DE) : Prop := Lk X Y → PE X e (tDw Y f)
def PDA (X : Cx) (Y : Cy) (es : List Expr) (f : DA) : Prop := Lk X Y → PA X es (tDA Y f)
def PDT (X : Cx) (Y : Cy) (e : Expr) (f : DT) : Prop := Lk X Y → PT X e (tDT Y f)
def PDTw (X : Cx) (Y : Cy) (e : Expr) (f : DT) : Prop := Lk X Y → PW X e (tDT Y f)
def PDS (X : Cx) (Y : Cy) (st : Stmt) (F : DS) : Prop := Lk X Y → PS X st (tDS Y F)
def PDSs (X : Cx) (Y : Cy) (st : List Stmt) (F : DS) : Prop := Lk X Y → PSs X st (tDS Y F)
theorem impPE {X : Cx} {e : Expr} {t t' : TE} (h : PE X e t) (i : ∀ σ H Q, t' σ H Q → t σ H Q) : PE X e t' := ⟨fun pins s σ H Q I q => h.run pins s σ H Q I (i σ H Q q)⟩
theorem impPT {X : Cx} {e : Expr} {t t' : TT} (h : PT X e t) (i : ∀ σ H Q, t' σ H Q → t σ H Q) : PT X e t' := ⟨fun pins s σ H Q I q => h.run pins s σ H Q I (i σ H Q q)⟩
theorem impPW {X : Cx} {e : Expr} {t t' : TT} (h : PW X e t) (i : ∀ σ H Q, t' σ H Q → t σ H Q) : PW X e t' := ⟨fun w pins s σ H Q I q => h.run w pins s σ H Q I (i σ H Q q)⟩
theorem impPA {X : Cx} {e : List Expr} {t t' : TA} (h : PA X e t) (i : ∀ σ H Q, t' σ H Q → t σ H Q) : PA X e t' := ⟨fun p pins s σ H Q I q => h.run p pins s σ H Q I (i σ H Q q)⟩
theorem impPS {X : Cx} {e : Stmt} {t t' : TS} (h : PS X e t) (i : ∀ N σ H, t' N σ H → t N σ H) : PS X e t' := ⟨fun pins s σ H N I q => h.run pins s σ H N I (i N σ H q)⟩
theorem impPSs {X : Cx} {e : List Stmt} {t t' : TS} (h : PSs X e t) (i : ∀ N σ H, t' N σ H → t N σ H) : PSs X e t' := ⟨fun pins s σ H N I q => h.run pins s σ H N I (i N σ H q)⟩
theorem EPost.w {Y : Cy} {O : Addr → Prop} {σ : St} {H : Hp} {Q : VK} {r : R D} (h : EPostW Y O σ H Q r) : EPost Y O σ H Q r := by
  cases r with
  | ok d => exact fun v H' s q => h v H' s q.w
  | ex e => exact h
  | no => exact h
theorem PD.w {X : Cx} {Y : Cy} {e : Expr} {f : DE} (h : PD X Y e f) : PDw X Y e f := fun k => impPE (h k) fun σ H Q ⟨O, ρ, s, q⟩ => ⟨O, ρ, s, EPost.w q⟩
end Tw

set_option maxHeartbeats 2000000
namespace Tw
open PySem PySem.Spec L2
open PyProof.Rows hiding St
/-- what is wanted of an operation's answer -/
def OPost (G : Gc) (Z : Addr → Prop) (H : Hp) (Q : VK) : Option D → Prop
  | some d => ∀ v H', Same H H' → Rep G Z H' d v → Q v H'
  | none => False
def Op2 (G : Gc) (r : R2) (g : D → D → Option D) : Prop := ∀ (Z : Addr → Prop) (H : Hp) (x y : V) (dx dy : D) (Q : VK), (∀ a, Z a → H a ≠ none) → RepW G Z H dx x → RepW G Z H dy y → OPost G Z H Q (g dx dy) → r x y H Q
def Op1 (G : Gc) (r : V → Hp → VK → Prop) (g : D → Option D) : Prop := ∀ (Z : Addr → Prop) (H : Hp) (x : V) (dx : D) (Q : VK), (∀ a, Z a → H a ≠ none) → RepW G Z H dx x → OPost G Z H Q (g dx) → r x H Q
section
variable {X : Cx} {Y : Cy} {a b c : Expr} {fa fb fc : DE} {pos : Pos}
theorem ex_fwd {Y : Cy} {O : Addr → Prop} {σ : L2.St} {H H1 : Hp} {e : Ex} (s : Same H H1) (h : ∀ c od H', Same H H' → ExRep Y.G (Zo Y.Ze O) H' e c od → Y.E c od σ H') :
    ∀ c od H', Same H1 H' → ExRep Y.G (Zo Y.Ze O) H' e c od → Y.E c od σ H' := fun c od H' s' => h c od H' (s.trans s')
/-- two operands, an operation -/
theorem bin_imp {r : R2} {g : D → D → Option D} (ho : Op2 Y.G r g) (σ : L2.St) (H : Hp) (Q : VK) (h : tD Y (e2 g fa fb) σ H Q) : tOp r (tDw Y fa) (tDw Y fb) σ H Q := by
  obtain ⟨O, ρ, s, q⟩ := h
  refine ⟨O, ρ, s, ?_⟩
  unfold e2 at q
  cases ea : fa ρ with
  | ex e => rw [ea] at q; exact q
  | no => rw [ea] at q; exact q
  | ok dx =>
    rw [ea] at q
    intro x H1 s1 rx
    refine ⟨O, ρ, s.same s1, ?_⟩
    simp only [R.bind_ok] at q
    cases eb : fb ρ with
    | ex e => rw [eb] at q; exact ex_fwd s1 q
    | no => rw [eb] at q; exact q
    | ok dy =>
      rw [eb] at q
      simp only [R.bind_ok] at q
      intro y H2 s2 ry
      refine ho _ H2 x y dx dy Q ((s.same (s1.trans s2)).zt) (rx.same s2) ry ?_
      cases eg : g dx dy with
      | none => rw [eg] at q; exact q
      | some d => rw [eg] at q; exact fun v H3 s3 rv => q v H3 (s1.trans (s2.trans s3)) rv
theorem un_imp {r : V → Hp → VK → Prop} {g : D → Option D} (ho : Op1 Y.G r g) (σ : L2.St) (H : Hp) (Q : VK) (h : tD Y (e1 g fa) σ H Q) : tDw Y fa σ H (fun x H1 => r x H1 Q) := by
  obtain ⟨O, ρ, s, q⟩ := h
  refine ⟨O, ρ, s, ?_⟩
  unfold e1 at q
  cases ea : fa ρ with
  | ex e => rw [ea] at q; exact q
  | no => rw [ea] at q; exact q
  | ok dx =>
    rw [ea] at q
    intro x H1 s1 rx
    refine ho _ H1 x dx Q ((s.same s1).zt) rx ?_
    simp only [R.bind_ok] at q
    cases eg : g dx with
    | none => rw [eg] at q; exact q
    | some d => rw [eg] at q; exact fun v H3 s3 rv => q v H3 (s1.trans s3) rv
theorem pd_op {op : Operator} {r : R2} {g : D → D → Option D} (hr : Lk X Y → OpR X (binaryOp op) r) (ho : X.K = Y.G.K → Op2 Y.G r g) (ha : PDw X Y a fa) (hb : PDw X Y b fb) : PD X Y (.BinOp a op b pos) (e2 g fa fb) :=
  fun k => impPE (pe_op (hr k) (ha k) (hb k)) (bin_imp (ho k.K))
theorem pd_cmp {op : CmpOp} {r : R2} {g : D → D → Option D} (hr : Lk X Y → OpR X (compareOp op) r) (ho : X.K = Y.G.K → Op2 Y.G r g) (ha : PDw X Y a fa) (hb : PDw X Y b fb) (hm : behindInMarks op b = false) : PD X Y (.Compare a [op] [b] pos) (e2 g fa fb) :=
  fun k => impPE (pe_cmpR (hr k) (ha k) (hb k) hm) (bin_imp (ho k.K))
theorem pd_un {op : UnaryOp} {r : V → Hp → VK → Prop} {g : D → Option D} (hr : Lk X Y → UnR X (unaryOp op) r) (ho : X.K = Y.G.K → Op1 Y.G r g) (ha : PDw X Y a fa) : PD X Y (.UnaryOp op a pos) (e1 g fa) :=
  fun k => impPE (pe_un (hr k) (ha k)) (un_imp (ho k.K))
theorem pd_var (i : Nat) {x : Str} (hN : X.N[i]? = some x := by rfl) (hv : Vis X.env.scope x := by first | exact Or.inl rfl | exact Or.inr (Or.inl rfl) | exact Or.inr (Or.inr rfl)) (hd : (x == ("__debug__" : Str)) = false := by decide)
    (hcd : (x == ("__classdict__" : Str)) = false := by decide) : PD X Y (.Name x pos) (eVar i) := fun k => impPE (pe_var hN hv hd hcd) fun σ H Q ⟨O, ρ, ⟨α, s⟩, q⟩ => by
  unfold eVar at q
  split at q
  · rename_i d e
    obtain ⟨v, e1, r⟩ := s.val i d e
    exact ⟨v, e1, q v H (Same.refl H) r⟩
  · rename_i d e
    obtain ⟨e1, r⟩ := s.ptr.2 i d e
    exact ⟨_, e1, q _ H (Same.refl H) r⟩
  · exact q.elim
theorem pd_look (i : Nat) {x : Str} (hN : X.N[i]? = some x := by rfl) (hv : Vis X.env.scope x := by first | exact Or.inl rfl | exact Or.inr (Or.inl rfl) | exact Or.inr (Or.inr rfl)) (hd : (x == ("__debug__" : Str)) = false := by decide)
    (hcd : (x == ("__classdict__" : Str)) = false := by decide) : PDw X Y (.Name x pos) (eLook i) := fun k => impPE (pe_var hN hv hd hcd) fun σ H Q ⟨O, ρ, ⟨α, s⟩, q⟩ => by
  unfold eLook at q
  split at q
  · rename_i d e
    obtain ⟨v, e1, r⟩ := s.val i d e
    exact ⟨v, e1, q v H (Same.refl H) r.w⟩
  · rename_i d e
    obtain ⟨e1, _, r⟩ := s.own i d e
    exact ⟨_, e1, q _ H (Same.refl H) r⟩
  · rename_i d e
    obtain ⟨e1, r⟩ := s.ptr.2 i d e
    exact ⟨_, e1, q _ H (Same.refl H) r.w⟩
  · exact q.elim
theorem pd_const {t : TE} {d : D} {v : V} (h : PE X a t) (ht : t = tC v) (hv : ∀ Z H, Rep Y.G Z H d v) : PD X Y a (eC d) := fun k => impPE h fun σ H Q ⟨O, ρ, s, q⟩ => by
  subst ht
  exact q v H (Same.refl H) (hv _ _)
theorem pd_int {i : Int} {j : Nat} : PD X Y (.Constant (.int i) j pos) (eC (.int i)) := pd_const pe_int rfl fun _ _ => rfl
theorem pd_bl {i : Bool} {j : Nat} : PD X Y (.Constant (.bool i) j pos) (eC (.bl i)) := pd_const pe_bl rfl fun _ _ => rfl
theorem pd_str {x : Str} {j : Nat} : PD X Y (.Constant (.str x) j pos) (eC (.str x)) := pd_const pe_str rfl fun _ _ => rfl
theorem pd_glob {x : Str} {u : Value} {d : D} {v : V} (hg : Gl X x) (hm : X.mg x = some u) (r : RelV v u) (hv : ∀ Z H, Rep Y.G Z H d v) (hd : (x == ("__debug__" : Str)) = false := by decide) : PD X Y (.Name x pos) (eC d) := pd_const (pe_glob hg hm r hd) rfl hv
theorem same_new {H : Hp} {n : Addr} {o : HO} (hn : H n = none) : Same H (upd H n o) := fun b u e => by rw [upd_ne (ne_of_none e hn)]; exact e
theorem lineD_eq : (sizeLine : Nat) = lineD := sizeLine_eq
theorem isEmpty_len {α β : Type} {xs : List α} {ys : List β} (h : xs.length = ys.length) : xs.isEmpty = ys.isEmpty := by
  cases xs <;> cases ys <;> simp_all
theorem rep_tup {G : Gc} {Z : Addr → Prop} {H : Hp} {l : List D} {v : V} (h : Rep G Z H (.tup l) v) : ∃ a vs, v = .ref a ∧ SqT G.K H a vs ∧ RepL G Z H l vs := by
  obtain ⟨a, vs, e, t, r⟩ := h
  rcases t with ⟨_, t⟩ | t
  · exact ⟨a, vs, e, .inl (.inl t), r⟩
  · exact ⟨a, vs, e, .inr t, r⟩
theorem rep_scr {G : Gc} {Z : Addr → Prop} {H : Hp} {l : List Int} {v : V} (h : Rep G Z H (.scr l) v) : ∃ a, v = .ref a ∧ SqL G.K H a (l.map V.int) := by
  obtain ⟨a, e, t⟩ := h
  rcases t with ⟨_, t⟩ | t
  · exact ⟨a, e, .inl t⟩
  · exact ⟨a, e, .inr t⟩
theorem RepL.nil_iff {G : Gc} {Z : Addr → Prop} {H : Hp} {l : List D} {vs : List V} (h : RepL G Z H l vs) : vs = [] ↔ l = [] := by
  have := h.length
  cases l <;> cases vs <;> simp_all
def rAddD (K : PySem.W.Frag) : R2 := fun x y H Q => (rI0 fun i j => V.int (i + j)) x y H Q ∨ ((∃ i j, x = V.str i ∧ y = V.str j ∧ i.length + j.length ≤ sizeLine ∧ Q (.str (i ++ j)) H) ∨ (rCat x y H Q ∨ rCatA K x y H Q))
theorem op_addD : OpR X (binaryOp .Add) (rAddD X.K) := op_add.or (op_add_str.or (op_cat.or op_catA))
theorem o2_add (G : Gc) : Op2 G (rAddD G.K) oAdd := by
  intro Z H x y dx dy Q zt rx ry h
  unfold oAdd at h
  split at h
  · rename_i i j
    exact .inl ⟨i, j, rx, ry, h _ H (Same.refl H) rfl⟩
  · rename_i i j
    split at h
    · rename_i hl
      exact .inr (.inl ⟨i, j, rx, ry, by rw [lineD_eq]; exact hl, h _ H (Same.refl H) rfl⟩)
    · exact h.elim
  · rename_i l m
    split at h
    · rename_i hl
      obtain ⟨p, vs, rfl, hp, r1⟩ := rx
      obtain ⟨q, us, rfl, hq, r2⟩ := ry
      refine .inr (.inr (.inl ⟨p, q, vs, us, rfl, rfl, hp, hq, by rw [lineD_eq, ← r1.length, ← r2.length]; exact hl, fun n hn => ?_⟩))
      exact h _ _ (same_new hn) ⟨n, _, rfl, fun z => zt n z hn, upd_same, (r1.append r2).same (same_new hn)⟩
    · exact h.elim
  · rename_i l m
    split at h
    · rename_i hl
      obtain ⟨p, vs, rfl, hp, r1⟩ := rep_tup rx
      obtain ⟨q, us, rfl, hq, r2⟩ := rep_tup ry
      refine .inr (.inr (.inr ⟨p, q, vs, us, rfl, rfl, hp, hq, by rw [lineD_eq, ← r1.length, ← r2.length]; exact hl, fun e => ?_, fun _ e => ?_, fun _ _ n hn => ?_⟩))
      · rw [r1.nil_iff.mp e] at h
        exact h _ H (Same.refl H) (show Rep G Z H (.tup ([] ++ m)) _ from ry)
      · rw [r2.nil_iff.mp e, List.append_nil] at h
        exact h _ H (Same.refl H) rx
      · exact h _ _ (same_new hn) ⟨n, _, rfl, .inl ⟨fun z => zt n z hn, upd_same⟩, (r1.append r2).same (same_new hn)⟩
    · exact h.elim
  · exact h.elim
theorem pd_add (ha : PDw X Y a fa) (hb : PDw X Y b fb) : PD X Y (.BinOp a .Add b pos) (e2 oAdd fa fb) := pd_op (fun _ => op_addD) (fun k => by rw [k]; exact o2_add _) ha hb
def rSubI : R2 := rI0 fun i j => V.int (i - j)
theorem op_subI : OpR X (binaryOp .Sub) rSubI := op_sub
theorem o2_sub (G : Gc) : Op2 G rSubI oSub := by
  intro Z H x y dx dy Q zt rx ry h
  unfold oSub at h
  split at h
  · rename_i i j
    exact ⟨i, j, rx, ry, h _ H (Same.refl H) rfl⟩
  · exact h.elim
theorem pd_sub (ha : PDw X Y a fa) (hb : PDw X Y b fb) : PD X Y (.BinOp a .Sub b pos) (e2 oSub fa fb) := pd_op (fun _ => op_subI) (fun _ => o2_sub _) ha hb
def rFdivI : R2 := rI CDiv fun i j => V.int (i / j)
theorem o2_fdiv (G : Gc) : Op2 G rFdivI oFdiv := by
  intro Z H x y dx dy Q zt rx ry h
  unfold oFdiv at h
  split at h
  · rename_i i j
    split at h
    · rename_i hc
      exact ⟨i, j, rx, ry, hc, h _ H (Same.refl H) rfl⟩
    · exact h.elim
  · exact h.elim
theorem pd_fdiv (ha : PDw X Y a fa) (hb : PDw X Y b fb) : PD X Y (.BinOp a .FloorDiv b pos) (e2 oFdiv fa fb) := pd_op (r := rFdivI) (fun _ => op_fdiv) (fun _ => o2_fdiv _) ha hb
def rModI : R2 := rI (fun _ j => 0 < j) fun i j => V.int (i % j)
theorem o2_mod (G : Gc) : Op2 G rModI oMod := by
  intro Z H x y dx dy Q zt rx ry h
  unfold oMod at h
  split at h
  · rename_i i j
    split at h
    · rename_i hc
      exact ⟨i, j, rx, ry, hc, h _ H (Same.refl H) rfl⟩
    · exact h.elim
  · exact h.elim
theorem pd_mod (ha : PDw X Y a fa) (hb : PDw X Y b fb) : PD X Y (.BinOp a .Mod b pos) (e2 oMod fa fb) := pd_op (r := rModI) (fun _ => op_mod) (fun _ => o2_mod _) ha hb
def rPowI : R2 := rI CPow fun i j => V.int (i ^ j.toNat)
theorem o2_pow (G : Gc) : Op2 G rPowI oPow := by
  intro Z H x y dx dy Q zt rx ry h
  unfold oPow at h
  split at h
  · rename_i i j
    split at h
    · rename_i hc
      exact ⟨i, j, rx, ry, hc, h _ H (Same.refl H) rfl⟩
    · exact h.elim
  · exact h.elim
theorem pd_pow (ha : PDw X Y a fa) (hb : PDw X Y b fb) : PD X Y (.BinOp a .Pow b pos) (e2 oPow fa fb) := pd_op (r := rPowI) (fun _ => op_pow) (fun _ => o2_pow _) ha hb
theorem o2_lt (G : Gc) : Op2 G (rI0 fun i j => V.bl (decide (i < j))) oLt := by
  intro Z H x y dx dy Q zt rx ry h
  unfold oLt at h
  split at h
  · rename_i i j
    exact ⟨i, j, rx, ry, h _ H (Same.refl H) rfl⟩
  · exact h.elim
theorem o2_le (G : Gc) : Op2 G (rI0 fun i j => V.bl (decide (i ≤ j))) oLe := by
  intro Z H x y dx dy Q zt rx ry h
  unfold oLe at h
  split at h
  · rename_i i j
    exact ⟨i, j, rx, ry, h _ H (Same.refl H) rfl⟩
  · exact h.elim
theorem o2_gt (G : Gc) : Op2 G (rI0 fun i j => V.bl (decide (j < i))) oGt := by
  intro Z H x y dx dy Q zt rx ry h
  unfold oGt at h
  split at h
  · rename_i i j
    exact ⟨i, j, rx, ry, h _ H (Same.refl H) rfl⟩
  · exact h.elim
theorem o2_ge (G : Gc) : Op2 G (rI0 fun i j => V.bl (decide (j ≤ i))) oGe := by
  intro Z H x y dx dy Q zt rx ry h
  unfold oGe at h
  split at h
  · rename_i i j
    exact ⟨i, j, rx, ry, h _ H (Same.refl H) rfl⟩
  · exact h.elim
theorem RepL.rep {G : Gc} {Z : Addr → Prop} {H : Hp} {l : List D} {vs : List V} (h : RepL G Z H l vs) : ∀ n : Nat, RepL G Z H (List.replicate n l).flatten (List.replicate n vs).flatten
  | 0 => RepL.nil
  | n + 1 => by
    rw [List.replicate_succ, List.replicate_succ, List.flatten_cons, List.flatten_cons]
    exact h.append (RepL.rep h n)
def rMulS : R2 := fun x y H Q => ∃ (s : Str) (k : Int), x = .str s ∧ y = .int k ∧ 0 ≤ k ∧ k ≤ 1 ∧ Q (.str (repS s k.toNat)) H
theorem op_mul_str1 : OpR X (binaryOp .Mult) rMulS := by
  intro pins s σ H x y v u Q I rx ry h
  obtain ⟨z, k, rfl, rfl, h0, h1, q⟩ := h
  obtain ⟨t, rfl⟩ := rx
  obtain ⟨t', rfl⟩ := ry
  have hk : k = 0 ∨ k = 1 := by omega
  refine PySem.SB.mul (x := z) (n := k) ⟨?_, fun a b => ?_, fun a b => ?_⟩ fun t2 k2 => ⟨.str _, H, I.tok _, ⟨t2, ?_⟩, q⟩
  · rcases hk with rfl | rfl <;> decide
  · rcases hk with rfl | rfl
    · exact absurd (by decide) a
    · simp at b
  · rcases hk with rfl | rfl
    · exact absurd (by decide) a
    · simp at b
  · rcases hk with rfl | rfl
    · rfl
    · have e1 : repS z (1 : Int).toNat = z := by
        show z ++ Str.empty = z
        obtain ⟨c⟩ := z
        show (⟨c ++ #[]⟩ : Str) = ⟨c⟩
        simp
      rw [e1]
      rfl
def rMulD : R2 := fun x y H Q => (rI CMul fun i j => V.int (i * j)) x y H Q ∨ (rRep x y H Q ∨ rMulS x y H Q)
theorem op_mulD : OpR X (binaryOp .Mult) rMulD := op_mul.or (op_rep.or op_mul_str1)
theorem o2_mul (G : Gc) : Op2 G rMulD oMul := by
  intro Z H x y dx dy Q zt rx ry h
  unfold oMul at h
  split at h
  · rename_i i j
    split at h
    · rename_i hc
      exact .inl ⟨i, j, rx, ry, hc, h _ H (Same.refl H) rfl⟩
    · exact h.elim
  · rename_i l k
    split at h
    · rename_i hc
      obtain ⟨p, vs, rfl, hp, r1⟩ := rx
      refine .inr (.inl ⟨p, k, vs, rfl, ry, hp, hc.1, hc.2.1, by rw [lineD_eq, ← r1.length]; exact hc.2.2, fun n hn => ?_⟩)
      exact h _ _ (same_new hn) ⟨n, _, rfl, fun z => zt n z hn, upd_same, (r1.rep _).same (same_new hn)⟩
    · exact h.elim
  · rename_i z k
    split at h
    · rename_i hc
      exact .inr (.inr ⟨z, k, rx, ry, hc.1, hc.2, h _ H (Same.refl H) rfl⟩)
    · exact h.elim
  · exact h.elim
theorem pd_mul (ha : PDw X Y a fa) (hb : PDw X Y b fb) : PD X Y (.BinOp a .Mult b pos) (e2 oMul fa fb) := pd_op (fun _ => op_mulD) (fun _ => o2_mul _) ha hb
end
mutual
def toPy : D → PyData
  | .bl b => .bool b
  | .int i => .int i
  | .str s => .str s
  | .lst l => .list (toPyL l)
  | .tup l => .tuple (toPyL l)
  | _ => .none
def toPyL : List D → List PyData
  | [] => []
  | d :: ds => toPy d :: toPyL ds
end
mutual
theorem deq_py : ∀ (k j : Nat) (d e : D), shp k d = true → shp j e = true → deq d e = PyData.eqv (toPy d) (toPy e)
  | k, j, .lst l, .lst m, h1, h2 => by
    cases k with
    | zero => simp [shp] at h1
    | succ k =>
      cases j with
      | zero => simp [shp] at h2
      | succ j =>
        simp only [deq, toPy, PyData.eqv]
        exact deqL_py k j l m (by simpa [shp] using h1) (by simpa [shp] using h2)
  | k, j, .tup l, .tup m, h1, h2 => by
    cases k with
    | zero => simp [shp] at h1
    | succ k =>
      cases j with
      | zero => simp [shp] at h2
      | succ j =>
        simp only [deq, toPy, PyData.eqv]
        exact deqL_py k j l m (by simpa [shp] using h1) (by simpa [shp] using h2)
  | k, j, .non, e, h1, h2 => by cases e <;> first | (exfalso; cases j <;> simp [shp] at h2; done) | simp [deq, toPy, PyData.eqv]
  | k, j, .bl b, e, h1, h2 => by cases e <;> first | (exfalso; cases j <;> simp [shp] at h2; done) | simp [deq, toPy, PyData.eqv]
  | k, j, .int i, e, h1, h2 => by cases e <;> first | (exfalso; cases j <;> simp [shp] at h2; done) | simp [deq, toPy, PyData.eqv]
  | k, j, .str i, e, h1, h2 => by cases e <;> first | (exfalso; cases j <;> simp [shp] at h2; done) | simp [deq, toPy, PyData.eqv]
  | k, j, .cls n, e, h1, h2 => by cases k <;> simp [shp] at h1
  | k, j, .scr n, e, h1, h2 => by cases k <;> simp [shp] at h1
  | k, j, .gst n, e, h1, h2 => by cases k <;> simp [shp] at h1
  | k, j, .dct n m, e, h1, h2 => by cases k <;> simp [shp] at h1
  | k, j, .obj n m o, e, h1, h2 => by cases k <;> simp [shp] at h1
  | k, j, .lst l, .non, h1, h2 => by simp [deq, toPy, PyData.eqv]
  | k, j, .lst l, .bl _, h1, h2 => by simp [deq, toPy, PyData.eqv]
  | k, j, .lst l, .int _, h1, h2 => by simp [deq, toPy, PyData.eqv]
  | k, j, .lst l, .str _, h1, h2 => by simp [deq, toPy, PyData.eqv]
  | k, j, .lst l, .tup _, h1, h2 => by simp [deq, toPy, PyData.eqv]
  | k, j, .lst l, .cls _, h1, h2 => by cases j <;> simp [shp] at h2
  | k, j, .lst l, .scr _, h1, h2 => by cases j <;> simp [shp] at h2
  | k, j, .lst l, .gst _, h1, h2 => by cases j <;> simp [shp] at h2
  | k, j, .lst l, .dct _ _, h1, h2 => by cases j <;> simp [shp] at h2
  | k, j, .lst l, .obj _ _ _, h1, h2 => by cases j <;> simp [shp] at h2
  | k, j, .tup l, .non, h1, h2 => by simp [deq, toPy, PyData.eqv]
  | k, j, .tup l, .bl _, h1, h2 => by simp [deq, toPy, PyData.eqv]
  | k, j, .tup l, .int _, h1, h2 => by simp [deq, toPy, PyData.eqv]
  | k, j, .tup l, .str _, h1, h2 => by simp [deq, toPy, PyData.eqv]
  | k, j, .tup l, .lst _, h1, h2 => by simp [deq, toPy, PyData.eqv]
  | k, j, .tup l, .cls _, h1, h2 => by cases j <;> simp [shp] at h2
  | k, j, .tup l, .scr _, h1, h2 => by cases j <;> simp [shp] at h2
  | k, j, .tup l, .gst _, h1, h2 => by cases j <;> simp [shp] at h2
  | k, j, .tup l, .dct _ _, h1, h2 => by cases j <;> simp [shp] at h2
  | k, j, .tup l, .obj _ _ _, h1, h2 => by cases j <;> simp [shp] at h2
theorem deqL_py : ∀ (k j : Nat) (d e : List D), (∀ x ∈ d, shp k x = true) → (∀ x ∈ e, shp j x = true) → deqL d e = PyData.eqvAll (toPyL d) (toPyL e)
  | k, j, [], [], h1, h2 => by simp [deqL, toPyL, PyData.eqvAll]
  | k, j, [], y :: e, h1, h2 => by simp [deqL, toPyL, PyData.eqvAll]
  | k, j, x :: d, [], h1, h2 => by simp [deqL, toPyL, PyData.eqvAll]
  | k, j, x :: d, y :: e, h1, h2 => by
    simp only [deqL, toPyL, PyData.eqvAll]
    rw [deq_py k j x y (h1 x List.mem_cons_self) (h2 y List.mem_cons_self), deqL_py k j d e (fun z hz => h1 z (List.mem_cons_of_mem _ hz)) (fun z hz => h2 z (List.mem_cons_of_mem _ hz))]
end
mutual
theorem py_lay : ∀ (k : Nat) (d : D), shp k d = true → (toPy d).canLay0 = true ∧ (toPy d).depth ≤ k
  | k, .lst l, h1 => by
    cases k with
    | zero => simp [shp] at h1
    | succ k =>
      obtain ⟨a, b⟩ := pyL_lay k l (by simpa [shp] using h1)
      simp only [toPy, PyData.canLay0, PyData.depth]
      exact ⟨a, by omega⟩
  | k, .tup l, h1 => by
    cases k with
    | zero => simp [shp] at h1
    | succ k =>
      obtain ⟨a, b⟩ := pyL_lay k l (by simpa [shp] using h1)
      simp only [toPy, PyData.canLay0, PyData.depth]
      exact ⟨a, by omega⟩
  | k, .non, h1 => by simp [toPy, PyData.canLay0, PyData.depth]
  | k, .bl b, h1 => by simp [toPy, PyData.canLay0, PyData.depth]
  | k, .int b, h1 => by simp [toPy, PyData.canLay0, PyData.depth]
  | k, .str b, h1 => by
    refine ⟨?_, by simp [toPy, PyData.depth]⟩
    have : strOkD b = true := by cases k <;> simpa [shp] using h1
    simp only [toPy, PyData.canLay0]
    exact this
  | k, .cls n, h1 => by cases k <;> simp [shp] at h1
  | k, .scr n, h1 => by cases k <;> simp [shp] at h1
  | k, .gst n, h1 => by cases k <;> simp [shp] at h1
  | k, .dct n m, h1 => by cases k <;> simp [shp] at h1
  | k, .obj n m o, h1 => by cases k <;> simp [shp] at h1
theorem pyL_lay : ∀ (k : Nat) (d : List D), (∀ x ∈ d, shp k x = true) → PyData.canLayAll0 (toPyL d) = true ∧ PyData.depthAll (toPyL d) ≤ k
  | k, [], h => by simp [toPyL, PyData.canLayAll0, PyData.depthAll]
  | k, x :: d, h => by
    obtain ⟨a, b⟩ := py_lay k x (h x List.mem_cons_self)
    obtain ⟨a2, b2⟩ := pyL_lay k d fun z hz => h z (List.mem_cons_of_mem _ hz)
    simp only [toPyL, PyData.canLayAll0, PyData.depthAll, a, a2]
    exact ⟨rfl, by omega⟩
end
mutual
theorem rep_dp {G : Gc} {Z : Addr → Prop} {H : Hp} : ∀ (k : Nat) (d : D) (v : V), shp k d = true → Rep G Z H d v → Dp G.K H v (toPy d)
  | k, .lst l, v, h1, r => by
    cases k with
    | zero => simp [shp] at h1
    | succ k =>
      obtain ⟨a, vs, rfl, _, e, r⟩ := r
      exact .lst (SqL.of e) (repL_dp k l vs (by simpa [shp] using h1) r)
  | k, .tup l, v, h1, r => by
    cases k with
    | zero => simp [shp] at h1
    | succ k =>
      obtain ⟨a, vs, rfl, e, r⟩ := rep_tup r
      exact .tup e (repL_dp k l vs (by simpa [shp] using h1) r)
  | k, .non, v, h1, r => by obtain rfl : v = .non := r; exact .non
  | k, .bl b, v, h1, r => by obtain rfl : v = .bl b := r; exact .bl b
  | k, .int b, v, h1, r => by obtain rfl : v = .int b := r; exact .int b
  | k, .str b, v, h1, r => by obtain rfl : v = .str b := r; exact .str b
  | k, .cls n, v, h1, r => by cases k <;> simp [shp] at h1
  | k, .scr n, v, h1, r => by cases k <;> simp [shp] at h1
  | k, .gst n, v, h1, r => by cases k <;> simp [shp] at h1
  | k, .dct n m, v, h1, r => by cases k <;> simp [shp] at h1
  | k, .obj n m o, v, h1, r => by cases k <;> simp [shp] at h1
theorem repL_dp {G : Gc} {Z : Addr → Prop} {H : Hp} : ∀ (k : Nat) (d : List D) (v : List V), (∀ x ∈ d, shp k x = true) → RepL G Z H d v → DpAll G.K H v (toPyL d)
  | k, [], v, h, r => by obtain rfl : v = [] := r; exact .nil
  | k, x :: d, v, h, r => by
    obtain ⟨u, w, rfl, r1, r2⟩ := r
    exact .cons (rep_dp k x u (h x List.mem_cons_self) r1) (repL_dp k d w (fun z hz => h z (List.mem_cons_of_mem _ hz)) r2)
end
theorem repw_dp {G : Gc} {Z : Addr → Prop} {H : Hp} {k : Nat} {d : D} {v : V} (h1 : shp k d = true) (r : RepW G Z H d v) : Dp G.K H v (toPy d) := by
  cases d with
  | lst l =>
    cases k with
    | zero => simp [shp] at h1
    | succ k =>
      obtain ⟨a, vs, rfl, e, r⟩ := r
      exact .lst (SqL.of e) (repL_dp k l vs (by simpa [shp] using h1) r)
  | dct a b => cases k <;> simp [shp] at h1
  | obj a b c => cases k <;> simp [shp] at h1
  | _ => exact rep_dp (Z := Z) k _ v h1 r
theorem shaped_py {k : Nat} {d : D} (h : shp k d = true) (hk : k ≤ 64) : SeqAt.shaped (toPy d) = true := by
  obtain ⟨a, b⟩ := py_lay k d h
  unfold SeqAt.shaped
  rw [a, decide_eq_true (Nat.le_trans b hk)]
  rfl
/-- scalars compare as data do -/
theorem scal_of {G : Gc} {Z : Addr → Prop} {H : Hp} {d e : D} {x y : V} (r1 : RepW G Z H d x) (r2 : RepW G Z H e y) (h : scalD d e = true) : scal x y = true ∧ decide (x = y) = deq d e := by
  cases d <;> cases e <;> simp only [scalD, Bool.false_eq_true] at h <;>
    (obtain rfl : x = _ := r1; obtain rfl : y = _ := r2; refine ⟨rfl, ?_⟩; simp only [deq]) <;> first
    | rfl
    | simp
  all_goals (first | (rename_i a b; by_cases q : a = b <;> simp [q]) | skip)
section
variable {X : Cx} {Y : Cy} {a b c : Expr} {fa fb fc : DE} {pos : Pos}
def rEqA (K : PySem.W.Frag) : R2 := fun x y H Q => rEq x y H Q ∨ rEqD K x y H Q
def rNeA (K : PySem.W.Frag) : R2 := fun x y H Q => rNe x y H Q ∨ rNeD K x y H Q
theorem o2_eq (G : Gc) : Op2 G (rEqA G.K) oEq := by
  intro Z H x y dx dy Q zt rx ry h
  unfold oEq eqD at h
  split at h
  · rename_i hs
    obtain ⟨h1, h2⟩ := scal_of rx ry hs
    exact .inl ⟨h1, by rw [h2]; exact h _ H (Same.refl H) rfl⟩
  · split at h
    · rename_i hs
      obtain ⟨h1, h2⟩ := Bool.and_eq_true_iff.mp hs
      refine .inr ⟨_, _, repw_dp h1 rx, repw_dp h2 ry, shaped_py h1 (by decide), shaped_py h2 (by decide), ?_⟩
      rw [← deq_py 60 60 dx dy h1 h2]
      exact h _ H (Same.refl H) rfl
    · exact h.elim
theorem o2_ne (G : Gc) : Op2 G (rNeA G.K) oNe := by
  intro Z H x y dx dy Q zt rx ry h
  unfold oNe eqD at h
  split at h
  · rename_i hs
    obtain ⟨h1, h2⟩ := scal_of rx ry hs
    exact .inl ⟨h1, by rw [h2]; exact h _ H (Same.refl H) rfl⟩
  · split at h
    · rename_i hs
      obtain ⟨h1, h2⟩ := Bool.and_eq_true_iff.mp hs
      refine .inr ⟨_, _, repw_dp h1 rx, repw_dp h2 ry, shaped_py h1 (by decide), shaped_py h2 (by decide), ?_⟩
      rw [← deq_py 60 60 dx dy h1 h2]
      exact h _ H (Same.refl H) rfl
    · exact h.elim
theorem hu65 {A : Around} {k : Nat} (r : RoomL k A) : A.units + 65 < cLine := by have := r.un; omega
theorem hu64 {A : Around} {k : Nat} (r : RoomL k A) : A.units + 64 < cLine := by have := r.un; omega
theorem pd_eq (ha : PDw X Y a fa) (hb : PDw X Y b fb) : PD X Y (.Compare a [.Eq] [b] pos) (e2 oEq fa fb) :=
  pd_cmp (r := rEqA X.K) (fun k => op_eq.or (op_eqD (hu64 k.rm))) (fun k => by rw [k]; exact o2_eq _) ha hb (nomark _)
end
end Tw

set_option maxHeartbeats 2000000
namespace Tw
open PySem PySem.Spec L2
open PyProof.Rows hiding St
theorem look_val {G : Gc} {Z : Addr → Prop} {H : Hp} : ∀ {ks : List Str} {l : List D} {vs : List V} (x : Str), ks.length = vs.length → RepL G Z H l vs →
    match lookD ks l x with
    | some d => ∃ v, valV (sKeys ks vs) (Sum.inr x : Key) = some v ∧ Rep G Z H d v
    | none => valV (sKeys ks vs) (Sum.inr x : Key) = none
  | [], l, vs, x, e, r => by cases l <;> cases vs <;> simp_all [lookD, sKeys, valV]
  | k :: ks, l, [], x, e, r => by simp at e
  | k :: ks, [], v :: vs, x, e, r => by cases (show (v :: vs) = [] from r)
  | k :: ks, d :: l, v :: vs, x, e, r => by
    obtain ⟨v', r', e', r1, r2⟩ := r
    cases e'
    have ih := look_val (ks := ks) (l := l) (vs := vs) x (by simpa using e) r2
    by_cases q : x = k
    · subst q
      simp only [lookD, if_pos rfl, sKeys]
      exact ⟨v, valV_pos rfl, r1⟩
    · have q' : ¬ (Sum.inr k : Key) = Sum.inr x := fun z => q (Sum.inr.inj z).symm
      simp only [lookD, if_neg q, sKeys]
      rw [valV_neg q']
      exact ih
theorem look_fld {G : Gc} {Z : Addr → Prop} {H : Hp} : ∀ {ks : List Str} {l : List D} {vs : List V} (x : Str), ks.length = vs.length → RepL G Z H l vs →
    match lookD ks l x with
    | some d => ∃ v, (fKeys ks vs).lookup x = some v ∧ Rep G Z H d v
    | none => (fKeys ks vs).lookup x = none
  | [], l, vs, x, e, r => by cases l <;> cases vs <;> simp_all [lookD, fKeys]
  | k :: ks, l, [], x, e, r => by simp at e
  | k :: ks, [], v :: vs, x, e, r => by cases (show (v :: vs) = [] from r)
  | k :: ks, d :: l, v :: vs, x, e, r => by
    obtain ⟨v', r', e', r1, r2⟩ := r
    cases e'
    have ih := look_fld (ks := ks) (l := l) (vs := vs) x (by simpa using e) r2
    by_cases q : x = k
    · subst q
      simp only [lookD, if_pos rfl, fKeys, List.lookup_cons, beq_self_eq_true]
      exact ⟨v, rfl, r1⟩
    · have q' : (x == k) = false := beq_eq_false_iff_ne.mpr q
      simp only [lookD, if_neg q, fKeys, List.lookup_cons, q']
      exact ih
theorem isEmpty_sKeys {ks : List Str} {vs : List V} (e : ks.length = vs.length) : (sKeys ks vs).isEmpty = ks.isEmpty := by
  cases ks <;> cases vs <;> simp_all [sKeys]
theorem len_sKeys : ∀ {ks : List Str} {vs : List V}, ks.length = vs.length → (sKeys ks vs).length = ks.length
  | [], vs, e => by cases vs <;> simp_all [sKeys]
  | k :: ks, [], e => by simp at e
  | k :: ks, v :: vs, e => by
    have := len_sKeys (ks := ks) (vs := vs) (by simpa using e)
    simp [sKeys, this]
theorem rep_flat {G : Gc} {Z : Addr → Prop} {H : Hp} {d : D} {v : V} (f : flatD d = true) (r : RepW G Z H d v) : flatV v = true ∧ ∀ e u, flatD e = true → RepW G Z H e u → eqV u v = deq e d := by
  cases d <;> simp only [flatD, Bool.false_eq_true] at f <;> obtain rfl : v = _ := r <;> refine ⟨rfl, fun e u fe re => ?_⟩ <;>
    (cases e <;> simp only [flatD, Bool.false_eq_true] at fe <;> obtain rfl : u = _ := re <;> simp only [eqV, deq])
theorem rep_flats {G : Gc} {Z : Addr → Prop} {H : Hp} {d : D} {v : V} (f : flatD d = true) (r : RepW G Z H d v) : ∀ {l : List D} {vs : List V}, l.all flatD = true → RepL G Z H l vs → vs.all flatV = true ∧ inV v vs = l.any fun y => deq y d
  | [], vs, _, h => by obtain rfl : vs = [] := h; simp [inV]
  | e :: l, vs, fl, h => by
    obtain ⟨u, w, rfl, r1, r2⟩ := h
    simp only [List.all_cons, Bool.and_eq_true] at fl
    obtain ⟨a, b⟩ := rep_flats f r fl.2 r2
    obtain ⟨c, k⟩ := rep_flat f r
    obtain ⟨c2, _⟩ := rep_flat fl.1 r1.w
    refine ⟨by simp only [List.all_cons, a, c2, Bool.and_self], ?_⟩
    unfold inV at b ⊢
    rw [List.any_cons, List.any_cons, b, k e u fl.1 r1.w]
theorem any_py {k : Nat} {d : D} (hd : shp k d = true) : ∀ {l : List D}, l.all (shp k) = true → ((toPyL l).any fun z => PyData.eqv z (toPy d)) = l.any fun y => deq y d
  | [], _ => rfl
  | e :: l, h => by
    simp only [List.all_cons, Bool.and_eq_true] at h
    simp only [toPyL, List.any_cons]
    rw [any_py hd h.2, deq_py k k e d h.1 hd]
section
variable {X : Cx} {Y : Cy} {a b c : Expr} {fa fb fc : DE} {pos : Pos}
def rInK : R2 := fun x y H Q => ∃ a kvs k, y = .ref a ∧ H a = some (.dK kvs) ∧ x = kV k ∧ Q (.bl (valV kvs k).isSome) H
def rNotInK : R2 := fun x y H Q => ∃ a kvs k, y = .ref a ∧ H a = some (.dK kvs) ∧ x = kV k ∧ Q (.bl (!(valV kvs k).isSome)) H
theorem op_in_dict {k : Nat} (hr : RoomL k X.A) : OpR X (compareOp .In) rInK := by
  intro pins s σ H x y v u Q I rx ry h
  obtain ⟨a, kvs, k, rfl, e, rfl, q⟩ := h
  cases ry
  exact d_in (hu_L hr) I (DGet.k e) rx fun s' I' => ⟨.bl _, H, I', rfl, q⟩
theorem op_notin_dict {k : Nat} (hr : RoomL k X.A) : OpR X (compareOp .NotIn) rNotInK := by
  intro pins s σ H x y v u Q I rx ry h
  obtain ⟨a, kvs, k, rfl, e, rfl, q⟩ := h
  cases ry
  exact d_notIn (hu_L hr) I (DGet.k e) rx fun s' I' => ⟨.bl _, H, I', rfl, q⟩
abbrev rSign : R2 := fun x y H Q => ∃ (c : Nat) (z : Str), x = .str ⟨#[c]⟩ ∧ y = .str z ∧ Q (.bl (decide (c ∈ z.cps.toList))) H
abbrev rNSign : R2 := fun x y H Q => ∃ (c : Nat) (z : Str), x = .str ⟨#[c]⟩ ∧ y = .str z ∧ Q (.bl (!decide (c ∈ z.cps.toList))) H
def rInA (K : PySem.W.Frag) : R2 := fun x y H Q => rSign x y H Q ∨ (rIn K false x y H Q ∨ (rInD K x y H Q ∨ rInK x y H Q))
def rNInA (K : PySem.W.Frag) : R2 := fun x y H Q => rNSign x y H Q ∨ (rIn K true x y H Q ∨ (rNotInD K x y H Q ∨ rNotInK x y H Q))
theorem str_one {s : Str} {c : Nat} (h : s.cps.toList = [c]) : s = ⟨#[c]⟩ := by
  obtain ⟨a⟩ := s
  have : a = #[c] := by
    have h' : a.toList = (#[c] : Array Nat).toList := h
    exact Array.toList_inj.mp h'
  rw [this]
/-- what `in` asks, as one fact -/
theorem in_fact {G : Gc} {Z : Addr → Prop} {H : Hp} {x y : V} {dx dy : D} {r : Bool} (rx : RepW G Z H dx x) (ry : RepW G Z H dy y) (h : inD dx dy = some r) :
    (∃ (c : Nat) (z : Str), x = .str ⟨#[c]⟩ ∧ y = .str z ∧ decide (c ∈ z.cps.toList) = r) ∨
    (∃ p xs, y = .ref p ∧ (SqL G.K H p xs ∨ SqT G.K H p xs) ∧ flatV x = true ∧ xs.all flatV = true ∧ inV x xs = r) ∨
    (∃ d ds, Dp G.K H x d ∧ Dp G.K H y (.list ds) ∧ SeqAt.shaped d = true ∧ SeqAt.shaped (.list ds) = true ∧ (ds.any fun z => PyData.eqv z d) = r) ∨
    (∃ a kvs k, y = .ref a ∧ H a = some (.dK kvs) ∧ x = kV k ∧ (valV kvs k).isSome = r) := by
  unfold inD at h
  split at h
  · split at h
    · rename_i t _ s
      obtain rfl : x = .str s := rx
      obtain rfl : y = .str t := ry
      obtain ⟨c, e, h⟩ := Option.map_eq_some_iff.mp h
      have e' : s.cps.toList = [c] := by
        unfold sgnD at e
        split at e
        · rename_i c' q
          rw [q, Option.some.inj e]
        · cases e
      exact .inl ⟨c, t, by rw [str_one e'], rfl, h⟩
    · cases h
  · rename_i l
    obtain ⟨p, vs, rfl, e, r2⟩ := ry
    split at h
    · rename_i hf
      obtain ⟨f1, f2⟩ := Bool.and_eq_true_iff.mp hf
      injection h with h
      obtain ⟨g1, g2⟩ := rep_flats f1 rx f2 r2
      exact .inr (.inl ⟨p, vs, rfl, .inl (SqL.of e), (rep_flat f1 rx).1, g1, g2.trans h⟩)
    · split at h
      · rename_i hf
        obtain ⟨f1, f2⟩ := Bool.and_eq_true_iff.mp hf
        injection h with h
        have f3 : ∀ x ∈ l, shp 60 x = true := fun x hx => List.all_eq_true.mp f2 x hx
        refine .inr (.inr (.inl ⟨_, toPyL l, repw_dp f1 rx, .lst (SqL.of e) (repL_dp 60 l vs f3 r2), shaped_py f1 (by decide), ?_, (any_py f1 f2).trans h⟩))
        exact shaped_py (k := 61) (d := .lst l) (by simpa [shp] using f3) (by decide)
      · cases h
  · rename_i l
    obtain ⟨p, vs, rfl, e, r2⟩ := rep_tup ry
    split at h
    · rename_i hf
      obtain ⟨f1, f2⟩ := Bool.and_eq_true_iff.mp hf
      injection h with h
      obtain ⟨g1, g2⟩ := rep_flats f1 rx f2 r2
      exact .inr (.inl ⟨p, vs, rfl, .inr e, (rep_flat f1 rx).1, g1, g2.trans h⟩)
    · cases h
  · rename_i ks l
    obtain ⟨p, vs, rfl, e, hl, r2⟩ := ry
    split at h
    · rename_i s
      obtain rfl : x = .str s := rx
      injection h with h
      refine .inr (.inr (.inr ⟨p, _, Sum.inr s, rfl, e, rfl, ?_⟩))
      have q := look_val s hl r2
      rw [← h]
      split at q
      · rename_i d e1
        obtain ⟨v, e2, _⟩ := q
        rw [e1, e2]
        rfl
      · rename_i e1
        rw [e1, q]
        rfl
    · cases h
  · cases h
theorem o2_in (G : Gc) : Op2 G (rInA G.K) oIn := by
  intro Z H x y dx dy Q zt rx ry h
  unfold oIn at h
  cases e : inD dx dy with
  | none => rw [e] at h; exact h.elim
  | some r =>
    rw [e] at h
    have hq : Q (.bl r) H := h _ H (Same.refl H) rfl
    rcases in_fact rx ry e with ⟨c, z, e1, e2, q⟩ | ⟨p, xs, e1, e2, e3, e4, q⟩ | ⟨d, ds, e1, e2, e3, e4, q⟩ | ⟨p, kvs, k, e1, e2, e3, q⟩
    · exact .inl ⟨c, z, e1, e2, by rw [q]; exact hq⟩
    · exact .inr (.inl ⟨p, xs, e1, e2, e3, e4, by rw [if_neg Bool.false_ne_true, q]; exact hq⟩)
    · exact .inr (.inr (.inl ⟨d, ds, e1, e2, e3, e4, by rw [q]; exact hq⟩))
    · exact .inr (.inr (.inr ⟨p, kvs, k, e1, e2, e3, by rw [q]; exact hq⟩))
theorem o2_notin (G : Gc) : Op2 G (rNInA G.K) oNotIn := by
  intro Z H x y dx dy Q zt rx ry h
  unfold oNotIn at h
  cases e : inD dx dy with
  | none => rw [e] at h; exact h.elim
  | some r =>
    rw [e] at h
    have hq : Q (.bl (!r)) H := h _ H (Same.refl H) rfl
    rcases in_fact rx ry e with ⟨c, z, e1, e2, q⟩ | ⟨p, xs, e1, e2, e3, e4, q⟩ | ⟨d, ds, e1, e2, e3, e4, q⟩ | ⟨p, kvs, k, e1, e2, e3, q⟩
    · exact .inl ⟨c, z, e1, e2, by rw [q]; exact hq⟩
    · exact .inr (.inl ⟨p, xs, e1, e2, e3, e4, by rw [if_pos rfl, q]; exact hq⟩)
    · exact .inr (.inr (.inl ⟨d, ds, e1, e2, e3, e4, by rw [q]; exact hq⟩))
    · exact .inr (.inr (.inr ⟨p, kvs, k, e1, e2, e3, by rw [q]; exact hq⟩))
theorem pd_in (ha : PDw X Y a fa) (hb : PDw X Y b fb) (hm : behindInMarks .In b = false := by rfl) : PD X Y (.Compare a [.In] [b] pos) (e2 oIn fa fb) :=
  pd_cmp (r := rInA X.K) (fun k => op_in_sign.or (op_in_seq.or ((op_inD (hu65 k.rm)).or (op_in_dict k.rm)))) (fun k => by rw [k]; exact o2_in _) ha hb hm
end
end Tw

set_option maxHeartbeats 2000000
namespace Tw
open PySem PySem.Spec L2
open PyProof.Rows hiding St
theorem orPE {X : Cx} {e : Expr} {t u : TE} (h : PE X e t) (k : PE X e u) : PE X e (fun σ H Q => t σ H Q ∨ u σ H Q) := ⟨fun pins s σ H Q I q => q.elim (h.run pins s σ H Q I) (k.run pins s σ H Q I)⟩
theorem atD_rep {G : Gc} {Z : Addr → Prop} {H : Hp} {l : List D} {vs : List V} {i : Int} {d : D} (r : RepL G Z H l vs) (h : atD l i = some d) : ∃ v, atI vs i = some v ∧ Rep G Z H d v := by
  have e := r.length
  unfold atD at h
  unfold atI ixN
  split at h
  · rename_i h0
    obtain ⟨v, e1, r1⟩ := r.get h
    have hl : i.toNat < vs.length := (List.getElem?_eq_some_iff.mp e1).1
    refine ⟨v, ?_, r1⟩
    rw [if_pos h0, if_pos (by omega)]
    exact e1
  · rename_i h0
    split at h
    · rename_i h1
      obtain ⟨v, e1, r1⟩ := r.get h
      refine ⟨v, ?_, r1⟩
      rw [if_neg h0, if_pos (by omega), ← e]
      exact e1
    · cases h
theorem atD_map {α β : Type} (f : α → β) (l : List α) (i : Int) : atD (l.map f) i = (atD l i).map f := by
  unfold atD
  rw [List.length_map]
  split
  · rw [List.getElem?_map]
  · split
    · rw [List.getElem?_map]
    · rfl
theorem atI_eq {α : Type} (l : List α) (i : Int) : atI l i = atD l i := by
  unfold atD atI ixN
  split
  · rename_i h0
    by_cases h : i < l.length
    · rw [if_pos h]; rfl
    · rw [if_neg h]
      have : l.length ≤ i.toNat := by omega
      rw [List.getElem?_eq_none this]
      rfl
  · split <;> rfl
section
variable {X : Cx} {Y : Cy} {a b c e : Expr} {fa fb fc : DE} {pos p2 : Pos}
theorem o2_ix (G : Gc) (Z : Addr → Prop) (H : Hp) (x y : V) (dx dy : D) (Q : VK) (zt : ∀ a, Z a → H a ≠ none) (rx : RepW G Z H dx x) (ry : RepW G Z H dy y) (h : OPost G Z H Q (oIx dx dy)) :
    (∀ ks l, dx ≠ .dct ks l) → rIx G.K x y H Q := by
  intro hd
  unfold oIx at h
  split at h
  · rename_i l i
    obtain ⟨p, vs, rfl, hp, r1⟩ := rx
    cases e : atD l i with
    | none => rw [e] at h; exact h.elim
    | some d =>
      rw [e] at h
      obtain ⟨v, e1, e2⟩ := atD_rep r1 e
      exact .inl ⟨p, vs, i, v, rfl, ry, SqL.of hp, e1, h _ H (Same.refl H) e2⟩
  · rename_i l i
    obtain ⟨p, vs, rfl, hp, r1⟩ := rep_tup rx
    cases e : atD l i with
    | none => rw [e] at h; exact h.elim
    | some d =>
      rw [e] at h
      obtain ⟨v, e1, e2⟩ := atD_rep r1 e
      exact .inr (.inl ⟨p, vs, i, v, rfl, ry, hp, e1, h _ H (Same.refl H) e2⟩)
  · rename_i l i
    obtain ⟨p, rfl, hp⟩ := rep_scr rx
    cases e : atD l i with
    | none => rw [e] at h; exact h.elim
    | some d =>
      rw [e] at h
      refine .inl ⟨p, _, i, .int d, rfl, ry, hp, ?_, h _ H (Same.refl H) rfl⟩
      rw [atI_eq, atD_map, e]
      rfl
  · rename_i s i
    split at h
    · rename_i hl
      cases e : atD s.cps.toList i with
      | none => rw [e] at h; exact h.elim
      | some d =>
        rw [e] at h
        exact .inr (.inr ⟨s, i, d, rx, ry, by rw [lineD_eq]; exact hl, by rw [atI_eq]; exact e, h _ H (Same.refl H) rfl⟩)
    · exact h.elim
  · exact absurd rfl (hd _ _)
  · exact h.elim
theorem o2_ixd (G : Gc) (Z : Addr → Prop) (H : Hp) (x y : V) (ks : List Str) (l : List D) (dy : D) (Q : VK) (rx : RepW G Z H (.dct ks l) x) (ry : RepW G Z H dy y) (h : OPost G Z H Q (oIx (.dct ks l) dy)) :
    ∃ a v, x = .ref a ∧ DGet H a y (some v) ∧ Q v H := by
  cases dy with
  | str s =>
    obtain ⟨p, vs, rfl, hp, hl, r1⟩ := rx
    obtain rfl : y = .str s := ry
    have q := look_val s hl r1
    simp only [oIx] at h
    cases e : lookD ks l s with
    | none => rw [e] at h; exact h.elim
    | some d =>
      rw [e] at h q
      obtain ⟨v, e1, e2⟩ := q
      refine ⟨p, v, rfl, ?_, h _ H (Same.refl H) e2⟩
      rw [← e1]
      exact DGet.k (k := Sum.inr s) hp
  | _ => exact h.elim
theorem pd_ix (ha : PDw X Y a fa) (hb : PDw X Y b fb) (hs : PlainIx b := by intro _ _; rfl) : PD X Y (.Subscript a b pos) (e2 oIx fa fb) := fun k => by
  refine impPE (orPE (pe_ix ix_seq (ha k) (hb k) hs) (pe_dget (hu_L k.rm) (ha k) (hb k) hs)) fun σ H Q h => ?_
  obtain ⟨O, ρ, s, q⟩ := h
  unfold e2 at q
  cases ea : fa ρ with
  | ex e => rw [ea] at q; exact .inl ⟨O, ρ, s, by rw [ea]; exact q⟩
  | no => rw [ea] at q; exact q.elim
  | ok dx =>
    rw [ea] at q
    simp only [R.bind_ok] at q
    by_cases hd : ∃ ks l, dx = .dct ks l
    · obtain ⟨ks, l, rfl⟩ := hd
      refine .inr ⟨O, ρ, s, ?_⟩
      rw [ea]
      intro x H1 s1 rx
      refine ⟨O, ρ, s.same s1, ?_⟩
      cases eb : fb ρ with
      | ex e => rw [eb] at q; exact ex_fwd s1 q
      | no => rw [eb] at q; exact q
      | ok dy =>
        rw [eb] at q
        simp only [R.bind_ok] at q
        intro y H2 s2 ry
        refine o2_ixd Y.G _ H2 x y ks l dy Q (rx.same s2) ry ?_
        cases eg : oIx (.dct ks l) dy with
        | none => rw [eg] at q; exact q
        | some d => rw [eg] at q; exact fun v H3 s3 rv => q v H3 (s1.trans (s2.trans s3)) rv
    · refine .inl ⟨O, ρ, s, ?_⟩
      rw [ea]
      intro x H1 s1 rx
      refine ⟨O, ρ, s.same s1, ?_⟩
      cases eb : fb ρ with
      | ex e => rw [eb] at q; exact ex_fwd s1 q
      | no => rw [eb] at q; exact q
      | ok dy =>
        rw [eb] at q
        simp only [R.bind_ok] at q
        intro y H2 s2 ry
        rw [k.K]
        refine o2_ix Y.G _ H2 x y dx dy Q ((s.same (s1.trans s2)).zt) (rx.same s2) ry ?_ fun ks l z => hd ⟨ks, l, z⟩
        cases eg : oIx dx dy with
        | none => rw [eg] at q; exact q
        | some d => rw [eg] at q; exact fun v H3 s3 rv => q v H3 (s1.trans (s2.trans s3)) rv
theorem lookD_mem : ∀ {ks : List Str} {l : List D} {f : Str} {d : D}, lookD ks l f = some d → f ∈ ks
  | [], l, f, d, h => by cases l <;> simp [lookD] at h
  | k :: ks, [], f, d, h => by simp [lookD] at h
  | k :: ks, d' :: l, f, d, h => by
    simp only [lookD] at h
    by_cases q : f = k
    · rw [q]; exact List.mem_cons_self
    · rw [if_neg q] at h; exact List.mem_cons_of_mem _ (lookD_mem h)
theorem pd_fld {f : Str} (ha : PDw X Y a fa) (hb : attributeBase a f X.env (eval a X.env) = eval a X.env := by rfl) : PD X Y (.Attribute a f pos) (e1 (oFld f) fa) := fun k => by
  refine impPE (pe_fld (ha k) hb) fun σ H Q h => ?_
  refine un_imp (r := fun x H1 Q => ∃ a C dx fs v, x = .ref a ∧ H1 a = some (.ins C dx fs) ∧ Cls X.K C ∧ NoAttr X.K C f ∧ fs.lookup f = some v ∧ Q v H1) (fun Z H x dx Q zt rx q => ?_) σ H Q h
  unfold oFld at q
  split at q
  · rename_i c ks l
    obtain ⟨p, dx, vs, rfl, hp, ⟨hl, hc, hf⟩, r1⟩ := rx
    have w := look_fld f hl r1
    cases e : lookD ks l f with
    | none => rw [e] at q; exact q.elim
    | some d =>
      rw [e] at q w
      obtain ⟨v, e1, e2⟩ := w
      have hin : f ∈ ks := lookD_mem e
      rw [k.K]
      exact ⟨p, Y.G.cm c, dx, _, v, rfl, hp, Y.G.cls c hc, Y.G.noat c f hc (hf f hin), e1, q _ H (Same.refl H) e2⟩
  · exact q.elim
def XPost (Y : Cy) (O : Addr → Prop) (σ : L2.St) (H : Hp) (Q : Option Int → Hp → Prop) : R (Option Int) → Prop
  | .ok d => ∀ H', Same H H' → Q d H'
  | .ex e => ∀ c od H', Same H H' → ExRep Y.G (Zo Y.Ze O) H' e c od → Y.E c od σ H'
  | .no => False
def tDX (Y : Cy) (f : DO) : TO := fun σ H Q => ∃ O ρ, SR Y O ρ σ H ∧ XPost Y O σ H Q (f ρ)
def PDX (X : Cx) (Y : Cy) (e : Option Expr) (f : DO) : Prop := Lk X Y → PO X e (tDX Y f)
theorem impPO {X : Cx} {e : Option Expr} {t t' : TO} (h : PO X e t) (i : ∀ σ H Q, t' σ H Q → t σ H Q) : PO X e t' := ⟨fun pins s σ H Q I q => h.run pins s σ H Q I (i σ H Q q)⟩
theorem px_none : PDX X Y none xNone := fun k => impPO po_none fun σ H Q ⟨O, ρ, s, q⟩ => q H (Same.refl H)
theorem px_some (ha : PDw X Y a fa) : PDX X Y (some a) (xSome fa) := fun k => impPO (po_some (ha k)) fun σ H Q ⟨O, ρ, s, q⟩ => by
  refine ⟨O, ρ, s, ?_⟩
  unfold xSome at q
  cases ea : fa ρ with
  | ex e => rw [ea] at q; exact q
  | no => rw [ea] at q; exact q
  | ok dx =>
    rw [ea] at q
    intro x H1 s1 rx
    cases dx with
    | int i => exact ⟨i, rx, q H1 s1⟩
    | _ => exact q.elim
theorem sIx_eq (n d : Nat) (o : Option Int) : HT.sIx n d o = sIxD n d o := by cases o <;> rfl
theorem cutV_rep {G : Gc} {Z : Addr → Prop} {H : Hp} {l : List D} {vs : List V} (r : RepL G Z H l vs) (lo hi : Option Int) : RepL G Z H (cutD l lo hi) (cutV vs lo hi) := by
  unfold cutD cutV
  simp only [sIx_eq, r.length]
  exact (r.drop _).take _
theorem o_sl (G : Gc) (Z : Addr → Prop) (H : Hp) (x : V) (lo hi : Option Int) (dx : D) (Q : VK) (zt : ∀ a, Z a → H a ≠ none) (rx : RepW G Z H dx x) (h : OPost G Z H Q (oSl lo hi dx)) :
    rSlL G.K x lo hi H Q ∨ (rSlA G.K x lo hi H Q ∨ rSlS x lo hi H Q) := by
  unfold oSl at h
  split at h
  · rename_i l
    obtain ⟨p, vs, rfl, hp, r1⟩ := rx
    exact .inl ⟨p, vs, rfl, SqL.of hp, fun n hn => h _ _ (same_new hn) ⟨n, _, rfl, fun z => zt n z hn, upd_same, (cutV_rep r1 lo hi).same (same_new hn)⟩⟩
  · rename_i l
    have rx' := rx
    obtain ⟨p, vs, rfl, hp, r1⟩ := rep_tup rx
    refine .inr (.inl ⟨p, vs, rfl, hp, fun w => ?_, fun w n hn => h _ _ (same_new hn) ⟨n, _, rfl, .inl ⟨fun z => zt n z hn, upd_same⟩, (cutV_rep r1 lo hi).same (same_new hn)⟩⟩)
    have e : cutD l lo hi = l := by
      unfold cutD
      simp only [sIx_eq, ← r1.length] at w
      rw [w.1, w.2]
      simp
    rw [e] at h
    exact h _ H (Same.refl H) rx'
  · rename_i s
    split at h
    · rename_i hl
      refine .inr (.inr ⟨s, rx, by rw [lineD_eq]; exact hl, ?_⟩)
      have e : cutS s lo hi = ⟨(cutD s.cps.toList lo hi).toArray⟩ := by
        unfold cutS cutD
        simp only [sIx_eq]
        rfl
      rw [e]
      exact h _ H (Same.refl H) rfl
    · exact h.elim
  · exact h.elim
theorem pd_slice {lo hi : Option Expr} {fl fh : DO} (ha : PDw X Y a fa) (hl : PDX X Y lo fl) (hh : PDX X Y hi fh) : PD X Y (.Subscript a (.Slice lo hi none p2) pos) (eSl fa fl fh) := fun k => by
  refine impPE (pe_slice (sl_list.or (sl_tupA.or sl_str)) (ha k) (hl k) (hh k)) fun σ H Q h => ?_
  obtain ⟨O, ρ, s, q⟩ := h
  refine ⟨O, ρ, s, ?_⟩
  unfold eSl at q
  cases ea : fa ρ with
  | ex e => rw [ea] at q; exact q
  | no => rw [ea] at q; exact q
  | ok dx =>
    rw [ea] at q
    simp only [R.bind_ok] at q
    intro x H1 s1 rx
    refine ⟨O, ρ, s.same s1, ?_⟩
    cases eb : fl ρ with
    | ex e => rw [eb] at q; exact ex_fwd s1 q
    | no => rw [eb] at q; exact q
    | ok lo' =>
      rw [eb] at q
      simp only [R.bind_ok] at q
      intro H2 s2
      refine ⟨O, ρ, (s.same s1).same s2, ?_⟩
      cases ec : fh ρ with
      | ex e => rw [ec] at q; exact ex_fwd (s1.trans s2) q
      | no => rw [ec] at q; exact q
      | ok hi' =>
        rw [ec] at q
        simp only [R.bind_ok] at q
        intro H3 s3
        have s13 := s1.trans (s2.trans s3)
        rw [k.K]
        refine o_sl Y.G _ H3 x lo' hi' dx Q ((s.same s13).zt) (rx.same (s2.trans s3)) ?_
        cases eg : oSl lo' hi' dx with
        | none => rw [eg] at q; exact q
        | some d => rw [eg] at q; exact fun v H4 s4 rv => q v H4 (s13.trans s4) rv
theorem da_nil : PDA X Y [] aNil := fun k => impPA pa_nil fun σ H Q ⟨O, ρ, s, q⟩ => q [] H (Same.refl H) rfl
theorem da_cons {es : List Expr} {fs : DA} (ha : PD X Y a fa) (hr : PDA X Y es fs) (hs : starEach (a :: es) X.env = (false, eval a X.env) :: starEach es X.env := by rfl) : PDA X Y (a :: es) (aCons fa fs) := fun k => impPA (pa_cons (ha k) (hr k) hs) fun σ H Q ⟨O, ρ, s, q⟩ => by
  refine ⟨O, ρ, s, ?_⟩
  unfold aCons at q
  cases ea : fa ρ with
  | ex e => rw [ea] at q; exact q
  | no => rw [ea] at q; exact q
  | ok dx =>
    rw [ea] at q
    simp only [R.bind_ok] at q
    intro x H1 s1 rx
    refine ⟨O, ρ, s.same s1, ?_⟩
    cases eb : fs ρ with
    | ex e => rw [eb] at q; exact ex_fwd s1 q
    | no => rw [eb] at q; exact q
    | ok ds =>
      rw [eb] at q
      intro vs H2 s2 rs
      exact q _ H2 (s1.trans s2) (RepL.cons (rx.same s2) rs)
theorem arg_imp {fs : DA} {g : List D → Option D} {r : List V → Hp → VK → Prop} (ho : ∀ Z H vs ds Q, (∀ a, Z a → H a ≠ none) → RepL Y.G Z H ds vs → OPost Y.G Z H Q (g ds) → r vs H Q) (σ : L2.St) (H : Hp) (Q : VK)
    (h : tD Y (fun ρ => (fs ρ).bind fun xs => R.of (g xs)) σ H Q) : tDA Y fs σ H (fun vs H1 => r vs H1 Q) := by
  obtain ⟨O, ρ, s, q⟩ := h
  refine ⟨O, ρ, s, ?_⟩
  have q : EPost Y O σ H Q ((fs ρ).bind fun xs => R.of (g xs)) := q
  cases ea : fs ρ with
  | ex e => rw [ea] at q; exact q
  | no => rw [ea] at q; exact q
  | ok ds =>
    rw [ea] at q
    simp only [R.bind_ok] at q
    intro vs H1 s1 rs
    refine ho _ H1 vs ds Q ((s.same s1).zt) rs ?_
    cases eg : g ds with
    | none => rw [eg] at q; exact q
    | some d => rw [eg] at q; exact fun v H4 s4 rv => q v H4 (s1.trans s4) rv
theorem eTup_of (fs : DA) : eTup fs = fun ρ => (fs ρ).bind fun xs => R.of (if xs.length ≤ lineD then some (.tup xs) else none) := by
  funext ρ
  unfold eTup
  congr 1
  funext xs
  split <;> rfl
theorem eLst_of (fs : DA) : eLst fs = fun ρ => (fs ρ).bind fun xs => R.of (if xs.length ≤ lineD then some (.lst xs) else none) := by
  funext ρ
  unfold eLst
  congr 1
  funext xs
  split <;> rfl
theorem pd_tup {es : List Expr} {fs : DA} {x1 : Nat} (ha : PDA X Y es fs) : PD X Y (.Tuple es x1 pos) (eTup fs) := fun k => by
  rw [eTup_of]
  refine impPE (pe_tup (ha k)) fun σ H Q h => arg_imp (r := fun xs H1 Q => xs.length ≤ sizeLine ∧ ∀ p, H1 p = none → Q (.ref p) (upd H1 p (.tup xs))) (fun Z H vs ds Q zt rs q => ?_) σ H Q h
  split at q
  · rename_i hl
    exact ⟨by rw [lineD_eq, ← rs.length]; exact hl, fun n hn => q _ _ (same_new hn) ⟨n, _, rfl, .inl ⟨fun z => zt n z hn, upd_same⟩, rs.same (same_new hn)⟩⟩
  · exact q.elim
theorem pd_lst {es : List Expr} {fs : DA} (ha : PDA X Y es fs) : PD X Y (.List es pos) (eLst fs) := fun k => by
  rw [eLst_of]
  refine impPE (pe_lst (ha k)) fun σ H Q h => arg_imp (r := fun xs H1 Q => xs.length ≤ sizeLine ∧ ∀ p, H1 p = none → Q (.ref p) (upd H1 p (.lst xs))) (fun Z H vs ds Q zt rs q => ?_) σ H Q h
  split at q
  · rename_i hl
    exact ⟨by rw [lineD_eq, ← rs.length]; exact hl, fun n hn => q _ _ (same_new hn) ⟨n, _, rfl, fun z => zt n z hn, upd_same, rs.same (same_new hn)⟩⟩
  · exact q.elim
end
end Tw

set_option maxHeartbeats 2000000
namespace Tw
open PySem PySem.Spec L2
open PyProof.Rows hiding St
section
variable {X : Cx} {Y : Cy} {a b c e : Expr} {fa fb fc : DE} {pos p p2 : Pos} {x : Str} {id T : String}
def Cb1 (G : Gc) (r : List V → Hp → VK → Prop) (g : D → Option D) : Prop := ∀ (Z : Addr → Prop) (H : Hp) (x : V) (dx : D) (Q : VK), (∀ a, Z a → H a ≠ none) → RepW G Z H dx x → OPost G Z H Q (g dx) → r [x] H Q
theorem CallR.or {f : Value} {r r' : List V → Hp → VK → Prop} (h : CallR X f r) (h' : CallR X f r') : CallR X f (fun xs H Q => r xs H Q ∨ r' xs H Q) := by
  intro pins s σ H xs us Q I rx q
  rcases q with q | q
  · exact h pins s σ H xs us Q I rx q
  · exact h' pins s σ H xs us Q I rx q
theorem pd_b1 {r : List V → Hp → VK → Prop} {g : D → Option D} (hc : Lk X Y → CallR X (.builtin id) r) (ho : X.K = Y.G.K → Cb1 Y.G r g) (hv : bootBuiltins x = some (.builtin id)) (hg : Gl X x) (hm : X.mg x = none) (ha : PDw X Y a fa) (hn : x ≠ "__name__" := by decide) (hdb : (x == ("__debug__" : Str)) = false := by decide)
    (hs : starEach (a :: []) X.env = (false, eval a X.env) :: starEach [] X.env := by rfl) (hpl : (backTo pos (starEach [] X.env)).any (·.1) = false := by rfl) :
    PD X Y (.Call (.Name x p) [a] [] pos) (e1 g fa) := fun k => by
  refine impPE (pe_callB (hc k) hg hm hv (pa_cons (ha k) pa_nil hs) hn hdb (he := hs) (hpl := hpl)) fun σ H Q h => ?_
  exact un_imp (r := fun x H1 Q => r [x] H1 Q) (fun Z H x dx Q zt rx q => ho k.K Z H x dx Q zt rx q) σ H Q h
theorem pd_t1 {r : List V → Hp → VK → Prop} {g : D → Option D} (hc : Lk X Y → CallR X (.type T) r) (ho : X.K = Y.G.K → Cb1 Y.G r g) (hv : bootBuiltins x = some (.type T)) (hg : Gl X x) (hm : X.mg x = none) (ha : PDw X Y a fa) (hn : x ≠ "__name__" := by decide) (hdb : (x == ("__debug__" : Str)) = false := by decide)
    (hs : starEach (a :: []) X.env = (false, eval a X.env) :: starEach [] X.env := by rfl) (hpl : (backTo pos (starEach [] X.env)).any (·.1) = false := by rfl) :
    PD X Y (.Call (.Name x p) [a] [] pos) (e1 g fa) := fun k => by
  refine impPE (pe_callTy (hc k) hg hm hv (pa_cons (ha k) pa_nil hs) hn hdb (he := hs) (hpl := hpl)) fun σ H Q h => ?_
  exact un_imp (r := fun x H1 Q => r [x] H1 Q) (fun Z H x dx Q zt rx q => ho k.K Z H x dx Q zt rx q) σ H Q h
theorem cb_len (G : Gc) : Cb1 G (fun xs H Q => ∃ x n, xs = [x] ∧ LenV G.K x H n ∧ Q (.int n) H) oLen := by
  intro Z H x dx Q zt rx q
  unfold oLen at q
  split at q
  · obtain ⟨p, vs, rfl, hp, r1⟩ := rx
    exact ⟨_, vs.length, rfl, .inl ⟨vs, SqL.of hp, rfl⟩, by rw [← r1.length]; exact q _ H (Same.refl H) rfl⟩
  · obtain ⟨p, vs, rfl, hp, r1⟩ := rep_tup rx
    exact ⟨_, vs.length, rfl, .inr ⟨vs, hp, rfl⟩, by rw [← r1.length]; exact q _ H (Same.refl H) rfl⟩
  · rename_i l
    obtain ⟨p, rfl, hp⟩ := rep_scr rx
    exact ⟨_, (l.map V.int).length, rfl, .inl ⟨_, hp, rfl⟩, by rw [List.length_map]; exact q _ H (Same.refl H) rfl⟩
  · rename_i s
    split at q
    · rename_i hl
      obtain rfl : x = .str s := rx
      exact ⟨_, s.length, rfl, ⟨by rw [lineD_eq]; exact hl, rfl⟩, q _ H (Same.refl H) rfl⟩
    · exact q.elim
  · exact q.elim
theorem pd_len (hg : Gl X "len") (hm : X.mg "len" = none) (ha : PDw X Y a fa) (hs : starEach (a :: []) X.env = (false, eval a X.env) :: starEach [] X.env := by rfl) : PD X Y (.Call (.Name "len" p) [a] [] pos) (e1 oLen fa) :=
  pd_b1 (fun _ => call_len) (fun k => by rw [k]; exact cb_len _) PySem.boot_len hg hm ha (hs := hs)
theorem pd_int' (hg : Gl X "int") (hm : X.mg "int" = none) (ha : PDw X Y a fa) (hs : starEach (a :: []) X.env = (false, eval a X.env) :: starEach [] X.env := by rfl) : PD X Y (.Call (.Name "int" p) [a] [] pos) (e1 oInt fa) :=
  pd_t1 (fun _ => call_int1) (fun k Z H x dx Q zt rx q => by
    unfold oInt at q
    split at q
    · exact .inl ⟨_, by rw [show x = _ from rx], q _ H (Same.refl H) rfl⟩
    · exact .inr ⟨_, by rw [show x = _ from rx], q _ H (Same.refl H) rfl⟩
    · exact q.elim) (by decide +kernel) hg hm ha (hs := hs)
theorem pd_abs (hg : Gl X "abs") (hm : X.mg "abs" = none) (ha : PDw X Y a fa) (hs : starEach (a :: []) X.env = (false, eval a X.env) :: starEach [] X.env := by rfl) : PD X Y (.Call (.Name "abs" p) [a] [] pos) (e1 oAbs fa) :=
  pd_b1 (fun _ => call_abs) (fun k Z H x dx Q zt rx q => by
    unfold oAbs at q
    split at q
    · exact ⟨_, by rw [show x = _ from rx], q _ H (Same.refl H) rfl⟩
    · exact q.elim) (by decide +kernel) hg hm ha (hs := hs)
theorem intsD_rep {G : Gc} {Z : Addr → Prop} {H : Hp} : ∀ {l : List D} {vs : List V} {ns : List Int}, RepL G Z H l vs → intsD l = some ns → vs = ns.map V.int
  | [], vs, ns, r, h => by
    cases h
    exact r
  | d :: l, vs, ns, r, h => by
    obtain ⟨v, w, rfl, r1, r2⟩ := r
    cases d with
    | int i =>
      obtain ⟨ms, e1, e2⟩ := Option.map_eq_some_iff.mp h
      subst e2
      rw [List.map_cons, ← intsD_rep r2 e1, show v = .int i from r1]
    | _ => cases h
theorem pd_sum (hg : Gl X "sum") (hm : X.mg "sum" = none) (ha : PDw X Y a fa) (hs : starEach (a :: []) X.env = (false, eval a X.env) :: starEach [] X.env := by rfl) (hca : Y.ca = true := by rfl) : PD X Y (.Call (.Name "sum" p) [a] [] pos) (e1 oSum fa) :=
  pd_b1 (fun k => cr_sum (k.calm hca)) (fun k Z H x dx Q zt rx q => by
    rw [k]
    unfold oSum at q
    split at q
    · rename_i l
      obtain ⟨p, vs, rfl, hp, r1⟩ := rx
      cases e : intsD l with
      | none => rw [e] at q; exact q.elim
      | some ns =>
        rw [e] at q
        rw [intsD_rep r1 e] at hp
        exact ⟨p, ns, rfl, SqL.of hp, q _ H (Same.refl H) rfl⟩
    · rename_i l
      obtain ⟨p, rfl, hp⟩ := rep_scr rx
      exact ⟨p, l, rfl, hp, q _ H (Same.refl H) rfl⟩
    · exact q.elim) (by decide +kernel) hg hm ha (hs := hs)
theorem pd_list (hg : Gl X "list") (hm : X.mg "list" = none) (ha : PDw X Y a fa) (hs : starEach (a :: []) X.env = (false, eval a X.env) :: starEach [] X.env := by rfl) : PD X Y (.Call (.Name "list" p) [a] [] pos) (e1 oList fa) :=
  pd_t1 (fun k => call_list_of) (fun k Z H x dx Q zt rx q => by
    rw [k]
    unfold oList at q
    split at q
    · obtain ⟨p, vs, rfl, hp, r1⟩ := rx
      exact ⟨p, vs, rfl, .inl (SqL.of hp), fun n hn => q _ _ (same_new hn) ⟨n, _, rfl, fun z => zt n z hn, upd_same, r1.same (same_new hn)⟩⟩
    · obtain ⟨p, vs, rfl, hp, r1⟩ := rep_tup rx
      exact ⟨p, vs, rfl, .inr hp, fun n hn => q _ _ (same_new hn) ⟨n, _, rfl, fun z => zt n z hn, upd_same, r1.same (same_new hn)⟩⟩
    · exact q.elim) (by decide +kernel) hg hm ha (hs := hs)
theorem pd_tuple (hg : Gl X "tuple") (hm : X.mg "tuple" = none) (ha : PDw X Y a fa) (hs : starEach (a :: []) X.env = (false, eval a X.env) :: starEach [] X.env := by rfl) : PD X Y (.Call (.Name "tuple" p) [a] [] pos) (e1 oTuple fa) :=
  pd_t1 (fun k => call_tuple_of) (fun k Z H x dx Q zt rx q => by
    rw [k]
    unfold oTuple at q
    split at q
    · obtain ⟨p, vs, rfl, hp, r1⟩ := rx
      exact ⟨p, vs, rfl, .inl ⟨SqL.of hp, fun n hn => q _ _ (same_new hn) ⟨n, _, rfl, .inl ⟨fun z => zt n z hn, upd_same⟩, r1.same (same_new hn)⟩⟩⟩
    · have rx' := rx
      obtain ⟨p, vs, rfl, hp, r1⟩ := rep_tup rx
      exact ⟨p, vs, rfl, .inr ⟨hp, q _ H (Same.refl H) rx'⟩⟩
    · exact q.elim) (by decide +kernel) hg hm ha (hs := hs)
theorem oIsi_kit {G : Gc} {Z : Addr → Prop} {H : Hp} {t : String} {x : V} {dx d : D} (rx : RepW G Z H dx x) (h : oIsi t dx = some d) : ∃ (n : String) (b : Bool), d = .bl b ∧ TyX G.K H x (.type n) ∧ PySem.W.kitOne G.K (.type n) (.type t) = some b := by
  have key : ∀ (n : String) (hx : TyX G.K H x (.type n)) (b : Bool), kitB n t = some b → D.bl b = d → ∃ (n : String) (b : Bool), d = .bl b ∧ TyX G.K H x (.type n) ∧ PySem.W.kitOne G.K (.type n) (.type t) = some b :=
    fun n hx b hk e => ⟨n, b, e.symm, hx, kit_ty hk⟩
  unfold oIsi at h
  split at h
  · have hx : TyX G.K H x (.type "bool") := by rw [show x = _ from rx]; exact .base (.bl _)
    split at h
    · rename_i ht
      rcases ht with rfl | rfl <;> exact key _ hx true (by decide +kernel) (Option.some.inj h)
    · split at h
      · rename_i ht
        rcases ht with rfl | rfl | rfl <;> exact key _ hx false (by decide +kernel) (Option.some.inj h)
      · cases h
  · have hx : TyX G.K H x (.type "int") := by rw [show x = _ from rx]; exact .base (.int _)
    split at h
    · rename_i ht
      subst ht
      exact key _ hx true (by decide +kernel) (Option.some.inj h)
    · split at h
      · rename_i ht
        rcases ht with rfl | rfl | rfl | rfl <;> exact key _ hx false (by decide +kernel) (Option.some.inj h)
      · cases h
  · have hx : TyX G.K H x (.type "str") := by rw [show x = _ from rx]; exact .base (.str _)
    split at h
    · rename_i ht
      subst ht
      exact key _ hx true (by decide +kernel) (Option.some.inj h)
    · split at h
      · rename_i ht
        rcases ht with rfl | rfl | rfl | rfl <;> exact key _ hx false (by decide +kernel) (Option.some.inj h)
      · cases h
  · have hx : TyX G.K H x (.type "tuple") := by
      obtain ⟨a, vs, rfl, t, r⟩ := rx
      rcases t with ⟨_, t⟩ | ⟨o, its, n, e, c, _⟩
      · exact .base (.tup t)
      · exact .kTuple e c
    split at h
    · rename_i ht
      subst ht
      exact key _ hx true (by decide +kernel) (Option.some.inj h)
    · split at h
      · rename_i ht
        rcases ht with rfl | rfl | rfl | rfl <;> exact key _ hx false (by decide +kernel) (Option.some.inj h)
      · cases h
  · have hx : TyX G.K H x (.type "list") := by
      obtain ⟨a, vs, rfl, t, r⟩ := rx
      exact .base (.lst t)
    split at h
    · rename_i ht
      subst ht
      exact key _ hx true (by decide +kernel) (Option.some.inj h)
    · split at h
      · rename_i ht
        rcases ht with rfl | rfl | rfl | rfl <;> exact key _ hx false (by decide +kernel) (Option.some.inj h)
      · cases h
  · have hx : TyX G.K H x (.type "NoneType") := by rw [show x = _ from rx]; exact .base .non
    split at h
    · rename_i ht
      rcases ht with rfl | rfl | rfl | rfl | rfl <;> exact key _ hx false (by decide +kernel) (Option.some.inj h)
    · cases h
  · cases h
/-- isinstance(x, T), T a built-in class -/
theorem pd_isi (t : String) {x : Str} (hg : Gl X "isinstance") (hm : X.mg "isinstance" = none) (ha : PDw X Y a fa) (hg2 : Gl X x) (hm2 : X.mg x = none) (hv2 : bootBuiltins x = some (.type t))
    (hs : starEach (a :: [.Name x p2]) X.env = (false, eval a X.env) :: starEach [.Name x p2] X.env := by rfl) (hs2 : starEach (.Name x p2 :: []) X.env = (false, eval (.Name x p2) X.env) :: starEach [] X.env := by rfl)
    (hpl : (backTo pos (starEach [.Name x p2] X.env)).any (·.1) = false := by rfl) (hn : x ≠ "__name__" := by decide) (hdb : (x == ("__debug__" : Str)) = false := by decide) : PD X Y (.Call (.Name "isinstance" p) [a, .Name x p2] [] pos) (e1 (oIsi t) fa) := fun k => by
  refine impPE (pe_callB call_isi hg hm (by decide +kernel) (pa_cons (ha k) (pa_cons (pe_bltn (v := .ty t) hg2 hm2 hv2 rfl hn hdb) pa_nil hs2) hs) (he := hs) (hpl := hpl)) fun σ H Q h => ?_
  refine un_imp (r := fun x H1 Q => rIsi X.K [x, .ty t] H1 Q) (fun Z H x dx Q zt rx q => ?_) σ H Q h
  cases e : oIsi t dx with
  | none => rw [e] at q; exact q.elim
  | some d =>
    rw [e] at q
    obtain ⟨n, b, rfl, hx, hk⟩ := oIsi_kit rx e
    rw [k.K]
    exact ⟨x, .ty t, .type n, .type t, b, rfl, .ty t, hx, hk, q _ H (Same.refl H) rfl⟩
end
section
variable {X : Cx} {Y : Cy} {a b c e : Expr} {fa fb fc : DE} {ga gb : DT} {pos p p2 : Pos}
theorem tval_imp (σ : L2.St) (H : Hp) (Q : Bool → Hp → Prop) (h : tDT Y (tVal fa) σ H Q) : tD Y fa σ H (fun x H1 => ∃ c, x = .bl c ∧ Q c H1) := by
  obtain ⟨O, ρ, s, q⟩ := h
  refine ⟨O, ρ, s, ?_⟩
  unfold tVal at q
  cases ea : fa ρ with
  | ex e => rw [ea] at q; exact q
  | no => rw [ea] at q; exact q
  | ok dx =>
    rw [ea] at q
    intro x H1 s1 rx
    cases dx with
    | bl k => exact ⟨k, rx, q H1 s1⟩
    | _ => exact q.elim
theorem pt_cm {op : CmpOp} {r : R2} {g : D → D → Option D} (hr : Lk X Y → OpR X (compareOp op) r) (ho : X.K = Y.G.K → Op2 Y.G r g) (ha : PDw X Y a fa) (hb : PDw X Y b fb) (hm : behindInMarks op b = false) : PDT X Y (.Compare a [op] [b] pos) (tVal (e2 g fa fb)) := fun k =>
  impPT (pt_cmpR (hr k) (ha k) (hb k) hm) fun σ H Q h => by
    have h1 := tval_imp σ H Q h
    exact bin_imp (ho k.K) σ H _ h1
theorem pt_lt (ha : PDw X Y a fa) (hb : PDw X Y b fb) : PDT X Y (.Compare a [.Lt] [b] pos) (tVal (e2 oLt fa fb)) := pt_cm (fun _ => op_lt) (fun _ => o2_lt _) ha hb (nomark _)
theorem pt_le (ha : PDw X Y a fa) (hb : PDw X Y b fb) : PDT X Y (.Compare a [.LtE] [b] pos) (tVal (e2 oLe fa fb)) := pt_cm (fun _ => op_le) (fun _ => o2_le _) ha hb (nomark _)
theorem pt_gt (ha : PDw X Y a fa) (hb : PDw X Y b fb) : PDT X Y (.Compare a [.Gt] [b] pos) (tVal (e2 oGt fa fb)) := pt_cm (fun _ => op_gt) (fun _ => o2_gt _) ha hb (nomark _)
theorem pt_ge (ha : PDw X Y a fa) (hb : PDw X Y b fb) : PDT X Y (.Compare a [.GtE] [b] pos) (tVal (e2 oGe fa fb)) := pt_cm (fun _ => op_ge) (fun _ => o2_ge _) ha hb (nomark _)
theorem pt_eq (ha : PDw X Y a fa) (hb : PDw X Y b fb) : PDT X Y (.Compare a [.Eq] [b] pos) (tVal (e2 oEq fa fb)) :=
  pt_cm (r := rEqA X.K) (fun k => op_eq.or (op_eqD (hu64 k.rm))) (fun k => by rw [k]; exact o2_eq _) ha hb (nomark _)
theorem pt_ne (ha : PDw X Y a fa) (hb : PDw X Y b fb) : PDT X Y (.Compare a [.NotEq] [b] pos) (tVal (e2 oNe fa fb)) :=
  pt_cm (r := rNeA X.K) (fun k => op_ne.or (op_neD (hu64 k.rm))) (fun k => by rw [k]; exact o2_ne _) ha hb (nomark _)
theorem pt_in (ha : PDw X Y a fa) (hb : PDw X Y b fb) (hm : behindInMarks .In b = false := by rfl) : PDT X Y (.Compare a [.In] [b] pos) (tVal (e2 oIn fa fb)) :=
  pt_cm (r := rInA X.K) (fun k => op_in_sign.or (op_in_seq.or ((op_inD (hu65 k.rm)).or (op_in_dict k.rm)))) (fun k => by rw [k]; exact o2_in _) ha hb hm
theorem pt_notin (ha : PDw X Y a fa) (hb : PDw X Y b fb) (hm : behindInMarks .NotIn b = false := by rfl) : PDT X Y (.Compare a [.NotIn] [b] pos) (tVal (e2 oNotIn fa fb)) :=
  pt_cm (r := rNInA X.K) (fun k => op_notIn_sign.or (op_notIn_seq.or ((op_notInD (hu65 k.rm)).or (op_notin_dict k.rm)))) (fun k => by rw [k]; exact o2_notin _) ha hb hm
theorem tru_rep {G : Gc} {Z : Addr → Prop} {H : Hp} {x : V} {dx : D} {k : Bool} (rx : RepW G Z H dx x) (h : truD dx = some k) : TruV G.K x H k := by
  unfold truD at h
  split at h
  · obtain rfl : x = .non := rx; exact (Option.some.inj h).symm
  · rename_i b; obtain rfl : x = .bl b := rx; exact (Option.some.inj h).symm
  · rename_i b; obtain rfl : x = .int b := rx; exact (Option.some.inj h).symm
  · rename_i b
    split at h
    · rename_i hl
      obtain rfl : x = .str b := rx; exact ⟨by rw [lineD_eq]; exact hl, (Option.some.inj h).symm⟩
    · cases h
  · obtain ⟨p, vs, rfl, hp, r1⟩ := rx
    exact .inl ⟨vs, SqL.of hp, by rw [← isEmpty_len r1.length]; exact (Option.some.inj h).symm⟩
  · obtain ⟨p, vs, rfl, hp, r1⟩ := rep_tup rx
    exact .inr (.inl ⟨vs, hp, by rw [← isEmpty_len r1.length]; exact (Option.some.inj h).symm⟩)
  · obtain ⟨p, vs, rfl, hp, hl, r1⟩ := rx
    exact .inr (.inr ⟨_, hp, by rw [isEmpty_sKeys hl]; exact (Option.some.inj h).symm⟩)
  · cases h
theorem pt_tru (ha : PDw X Y a fa) (he : ∀ whole, isTrue a X.env whole = (do let v ← whole; standAt a.pos; holding [v] (truthy v)) := by intro _; rfl) : PDT X Y a (tTru fa) := fun k => impPT (pt_truth (ha k) he) fun σ H Q h => by
  obtain ⟨O, ρ, s, q⟩ := h
  refine ⟨O, ρ, s, ?_⟩
  unfold tTru at q
  cases ea : fa ρ with
  | ex e => rw [ea] at q; exact q
  | no => rw [ea] at q; exact q
  | ok dx =>
    rw [ea] at q
    simp only [R.bind_ok] at q
    intro x H1 s1 rx
    cases e : truD dx with
    | none => rw [e] at q; exact q.elim
    | some kk =>
      rw [e] at q
      rw [k.K]
      exact ⟨kk, tru_rep rx e, q H1 s1⟩
theorem BPost.fwd {O : Addr → Prop} {σ : L2.St} {H H1 : Hp} {Q : Bool → Hp → Prop} {r : R Bool} (s : Same H H1) (h : BPost Y O σ H Q r) : BPost Y O σ H1 Q r := by
  cases r with
  | ok d => exact fun H' s' => h H' (s.trans s')
  | ex e => exact ex_fwd s h
  | no => exact h
theorem EPost.fwd {O : Addr → Prop} {σ : L2.St} {H H1 : Hp} {Q : VK} {r : R D} (s : Same H H1) (h : EPost Y O σ H Q r) : EPost Y O σ H1 Q r := by
  cases r with
  | ok d => exact fun v H' s' rv => h v H' (s.trans s') rv
  | ex e => exact ex_fwd s h
  | no => exact h
/-- a test, then something -/
theorem test_then {α : Type} {σ : L2.St} {H : Hp} {ρ : DEnv} {O : Addr → Prop} {P : R α → Prop} {k : Bool → R α} {Q : Bool → Hp → Prop} (s : SR Y O ρ σ H) (he : ∀ e, P (.ex e) → ∀ c od H', Same H H' → ExRep Y.G (Zo Y.Ze O) H' e c od → Y.E c od σ H') (hn : ¬ P .no)
    (h : P ((ga ρ).bind k)) (hq : ∀ b, ga ρ = .ok b → P (k b) → ∀ H1, Same H H1 → Q b H1) : tDT Y ga σ H Q := by
  refine ⟨O, ρ, s, ?_⟩
  cases ea : ga ρ with
  | ex e => rw [ea] at h; exact he e h
  | no => rw [ea] at h; exact hn h
  | ok b => rw [ea] at h; exact fun H1 s1 => hq b ea h H1 s1
theorem pw_and1' (ha : PDT X Y a ga) : PDTw X Y (.BoolOp .And [a] pos) ga := fun k => pw_and1 (ha k)
theorem pw_or1' (ha : PDT X Y a ga) : PDTw X Y (.BoolOp .Or [a] pos) ga := fun k => pw_or1 (ha k)
theorem pw_and' {rest : List Expr} (ha : PDT X Y a ga) (hb : PDTw X Y (.BoolOp .And (b :: rest) pos) gb) : PDTw X Y (.BoolOp .And (a :: b :: rest) pos) (tAndD ga gb) := fun k => impPW (pw_and (ha k) (hb k)) fun σ H Q ⟨O, ρ, s, q⟩ => by
  refine test_then (P := BPost Y O σ H Q) (k := fun k => if k then gb ρ else .ok false) s (fun e h => h) (fun h => h) q fun b eb hp H1 s1 => ?_
  cases b with
  | true => exact ⟨O, ρ, s.same s1, BPost.fwd s1 hp⟩
  | false => exact hp H1 s1
theorem pw_or' {rest : List Expr} (ha : PDT X Y a ga) (hb : PDTw X Y (.BoolOp .Or (b :: rest) pos) gb) : PDTw X Y (.BoolOp .Or (a :: b :: rest) pos) (tOrD ga gb) := fun k => impPW (pw_or (ha k) (hb k)) fun σ H Q ⟨O, ρ, s, q⟩ => by
  refine test_then (P := BPost Y O σ H Q) (k := fun k => if k then .ok true else gb ρ) s (fun e h => h) (fun h => h) q fun b eb hp H1 s1 => ?_
  cases b with
  | true => exact hp H1 s1
  | false => exact ⟨O, ρ, s.same s1, BPost.fwd s1 hp⟩
theorem pt_bo (h : PDTw X Y e ga) : PDT X Y e ga := fun k => (h k).pt
theorem pt_not' (ha : PDT X Y a ga) : PDT X Y (.UnaryOp .Not a pos) (tNotD ga) := fun k => impPT (pt_not (ha k)) fun σ H Q ⟨O, ρ, s, q⟩ => by
  exact test_then (P := BPost Y O σ H Q) (k := fun k => .ok (!k)) s (fun e h => h) (fun h => h) q fun b eb hp H1 s1 => hp H1 s1
theorem pd_one {op : BoolOp} (ha : PD X Y a fa) : PD X Y (.BoolOp op [a] pos) fa := fun k => pe_one (ha k)
theorem pd_or {rest : List Expr} (ha : PD X Y a fa) (hb : PD X Y (.BoolOp .Or (b :: rest) pos) fb) : PD X Y (.BoolOp .Or (a :: b :: rest) pos) (eOr fa fb) := fun k => impPE (pe_or (ha k) (hb k)) fun σ H Q ⟨O, ρ, s, q⟩ => by
  refine ⟨O, ρ, s, ?_⟩
  unfold eOr at q
  cases ea : fa ρ with
  | ex e => rw [ea] at q; exact q
  | no => rw [ea] at q; exact q
  | ok dx =>
    rw [ea] at q
    simp only [R.bind_ok] at q
    intro x H1 s1 rx
    cases dx with
    | bl kk =>
      refine ⟨kk, rx, ?_⟩
      cases kk with
      | false => exact ⟨O, ρ, s.same s1, EPost.fwd s1 q⟩
      | true => exact q _ H1 s1 rfl
    | _ => exact q.elim
theorem pd_neg (ha : PDw X Y a fa) : PD X Y (.UnaryOp .USub a pos) (e1 oNeg fa) := pd_un (r := rU fun i => .int (-i)) (fun _ => un_neg) (fun _ Z H x dx Q zt rx q => by
  unfold oNeg at q
  split at q
  · exact ⟨_, rx, q _ H (Same.refl H) rfl⟩
  · exact q.elim) ha
end
end Tw

namespace Tw
open PySem
/-- C(.., k = v, ..) by data -/
def eMkK (n m : Nat) (cn : String) (gD : List D → List D → List D) (init : D → List D → R (D × D)) (as ks : DA) : DE := fun ρ => (as ρ).bind fun xs => (ks ρ).bind fun ys => if xs.length = n ∧ ys.length = m then mkD cn init (gD xs ys) else .no
/-- x in o, o an object with its own __contains__ -/
def eRM (c : String) (f : List D → R D) (a o : DE) : DE := fun ρ => (a ρ).bind fun x => (o ρ).bind fun y => match y with
  | .obj c' ks vs => if c' = c then (f [.obj c' ks vs, x]).bind fun r => match r with | .bl b => .ok (.bl b) | _ => .no else .no
  | _ => .no
def eRMn (c : String) (f : List D → R D) (a o : DE) : DE := fun ρ => (a ρ).bind fun x => (o ρ).bind fun y => match y with
  | .obj c' ks vs => if c' = c then (f [.obj c' ks vs, x]).bind fun r => match r with | .bl b => .ok (.bl (!b)) | _ => .no else .no
  | _ => .no
/-- a op b, the class of a with its own method; b is an object of one of the classes cs -/
def eOp (c : String) (cs : List String) (f : List D → R D) (a b : DE) : DE := fun ρ => (a ρ).bind fun x => (b ρ).bind fun y => match x, y with
  | .obj c1 ks vs, .obj c2 ks2 vs2 => if c1 = c ∧ c2 ∈ cs then f [.obj c1 ks vs, .obj c2 ks2 vs2] else .no
  | _, _ => .no
/-- o[t], o an object with its own __getitem__ -/
def eIxO (c : String) (f : List D → R D) (a b : DE) : DE := fun ρ => (a ρ).bind fun x => (b ρ).bind fun y => match x with
  | .obj c' ks vs => if c' = c then f [.obj c' ks vs, y] else .no
  | _ => .no
/-- what a for walks in an object whose __iter__ hands on its field's list -/
def itO (c : String) (f : Str) : D → Option (List D)
  | .obj c' ks vs => if c' = c then (match lookD ks vs f with | some (.lst l) => some l | _ => none) else none
  | _ => none
def iOwn (c : String) (f : Str) (a : DE) : DI := fun ρ => (a ρ).bind fun x => R.of (itO c f x)
end Tw

set_option maxHeartbeats 2000000
namespace Tw
open PySem PySem.Spec L2
open PyProof.Rows hiding St
def DPost (G : Gc) (Ze : Addr → Prop) (H : Hp) (Q : VK) (E : XK) : R D → Prop
  | .ok d => ∀ v H', Same H H' → Rep G Ze H' d v → Q v H'
  | .ex e => ∀ c od H', Same H H' → ExRep G Ze H' e c od → E c od H'
  | .no => False
/-- a def that reads data and gives data -/
def dsp (G : Gc) (den : List D → R D) : Sp := fun vs H Q E => ∃ Ze ds, (∀ a, Ze a → H a ≠ none) ∧ RepL G Ze H ds vs ∧ DPost G Ze H Q E (den ds)
/-- an object of the text's classes at a -/
def ObjAt (G : Gc) (Z : Addr → Prop) (H : Hp) (a : Addr) (s : D) : Prop :=
  ∃ c ks l dx vs, s = .obj c ks l ∧ H a = some (.ins (G.cm c) dx (fKeys ks vs)) ∧ (ks.length = vs.length ∧ OkO G c ks) ∧ RepL G Z H l vs
def IPost (G : Gc) (Ze : Addr → Prop) (a : Addr) (H : Hp) (Q : VK) (E : XK) : R (D × D) → Prop
  | .ok p => ∀ v H', (∀ b o, b ≠ a → H b = some o → H' b = some o) → ObjAt G Ze H' a p.2 → Rep G Ze H' p.1 v → Q v H'
  | .ex e => ∀ c od H', (∀ b o, b ≠ a → H b = some o → H' b = some o) → H' a ≠ none → ExRep G Ze H' e c od → E c od H'
  | .no => False
/-- an __init__ -/
def dspM (G : Gc) (init : D → List D → R (D × D)) : Sp := fun vs H Q E => ∃ Ze a s us ds, vs = .ref a :: us ∧ Ze a ∧ (∀ b, Ze b → H b ≠ none) ∧ ObjAt G Ze H a s ∧ RepL G Ze H ds us ∧ IPost G Ze a H Q E (init s ds)
/-- a def of the text under the name x: its meaning, its level -/
def Fk (P : Program) (w : World) (K : PySem.W.Frag) (mg : Str → Option Value) (base : Heap) (G : Gc) (x : Str) (den : List D → R D) (j : Nat) : Prop :=
  ∃ f fd ps, FnOk P w K mg base (L2.CX P w) j f fd ps (dsp G den) ∧ mg x = some (.ref f) ∧ PySem.W.keepIn K (.ref f) = true ∧ Binds K fd ps []
/-- the making of an object of the class c (the name x), all arguments written -/
def Ck (P : Program) (w : World) (K : PySem.W.Frag) (mg : Str → Option Value) (base : Heap) (G : Gc) (x : Str) (c : String) (init : D → List D → R (D × D)) (j : Nat) : Prop :=
  ∃ f fd ps, FnOk P w K mg base (L2.CX P w) j f fd ps (dspM G init) ∧ Mk K (G.cm c) f ∧ mg x = some (.ref (G.cm c)) ∧ Binds K fd ps [] ∧ G.has c
/-- .. with keywords: n places written, the keywords ks, gD how they come together -/
def CkK (P : Program) (w : World) (K : PySem.W.Frag) (mg : Str → Option Value) (base : Heap) (G : Gc) (x : Str) (c : String) (n : Nat) (ks : List Str) (gD : List D → List D → List D) (init : D → List D → R (D × D)) (j : Nat) : Prop :=
  ∃ (f : Addr) (fd : FuncData) (ps : List Str) (g : List Value → List Value → List Value) (gV : List V → List V → List V), FnOk P w K mg base (L2.CX P w) j f fd ps (dspM G init) ∧ Mk K (G.cm c) f ∧ mg x = some (.ref (G.cm c)) ∧ KBn K fd ps (n + 1) ks g (fun vs zs => match vs with | v :: r => v :: gV r zs | [] => gV [] zs) ∧ G.has c ∧
    ∀ Z H ds es vs us, ds.length = n → es.length = ks.length → RepL G Z H ds vs → RepL G Z H es us → RepL G Z H (gD ds es) (gV vs us)
section
variable {X : Cx} {CX : CXT} {k : Nat} {f C : Addr} {fd : FuncData} {ps : List Str} {sp : Sp} {dvs : List V} {ds : List Value} {E : L2.St → XK} {x m : Str} {p pos apos : Pos} {e o : Expr} {es : List Expr} {ta : TE} {t : TA}
def tMethD (C : Addr) (m : Str) (sp : Sp) (E : L2.St → XK) (ta : TE) (t : TA) : TE := fun σ H Q => ta σ H fun x H1 => ∃ a dx fs, x = .ref a ∧ H1 a = some (.ins C dx fs) ∧ fs.lookup m = none ∧ t σ H1 fun vs H2 => sp (x :: vs) H2 Q (E σ)
theorem run_fn0D {pins : List (Addr × Obj)} {σ : L2.St} {H : Hp} {s : Shared} {Q : VK} {us : List Value} {vs : List V} (F : FnOk X.prog X.w X.K X.mg X.base CX k f fd ps sp) (hr : Room k X.A) (hb : Binds X.K fd ps []) (hx : PassesAt CX X σ (E σ))
    (I : Inv X pins σ H s) (r : Vals vs us) (h : sp vs H Q (E σ)) : wpAny (model X.prog X.w) X.A (call (.ref f) us) (EP X pins σ Q) X.xe s :=
  run_fnSD (dvs := []) (ds := []) F hr hb .nil hx I r (by rw [List.append_nil]; exact h)
theorem pe_methD {pl : Sem Bool} (he : PE X o ta) (c : Cls X.K C) (hm : Meth X.K C m f) (F : FnOk X.prog X.w X.K X.mg X.base CX k f fd ps sp) (hr : Room k X.A) (hb : Binds X.K fd ps []) (hx : ∀ σ, PassesAt CX X σ (E σ)) (ha : PA X (e :: es) t)
    (hst : starEach (e :: es) X.env = (false, eval e X.env) :: starEach es X.env := by rfl) (hpl : (backTo pos (starEach es X.env)).any (·.1) = false := by rfl)
    (ht : eval (.Call (.Attribute o m apos) (e :: es) [] pos) X.env = (do
      let ov ← eval o X.env
      standAt apos.atName
      let (f, first) ← holding [ov] (getMethod ov m pl)
      callWith pos f first (backTo pos (starEach (e :: es) X.env)) (backToKw pos (keywordEach [] X.env))) := by rfl) :
    PE X (.Call (.Attribute o m apos) (e :: es) [] pos) (tMethD C m sp E ta t) := by
  refine ⟨fun pins s σ H Q I h => ?_⟩
  refine PySem.W.methodCall_KW (pl := pl) (thn (he.run pins s σ H _ I h) fun u s1 ⟨x, H1, I1, rx, a, dx, fs, ex, ea, l, q⟩ => ?_) ht
  subst ex
  obtain rfl : u = Value.ref a := rx
  refine getmeth_ok I1 ea c hm l ?_
  refine PySem.W.callWith_K (first := [.ref a]) (h₀ := X.base) I.ok.mod.kin hm.kp (thn (ha.run pos pins s1 σ H1 _ I1 q) fun us s2 ⟨vs, H2, I2, r, q2⟩ => ⟨I2.kIn, ?_⟩) hst hpl
  exact run_fn0D (us := .ref a :: us) (vs := .ref a :: vs) F hr hb (hx σ) I2 (.cons rfl r) q2
def tMakeD (C : Addr) (sp : Sp) (E : L2.St → XK) (t : TA) : TE := fun σ H Q => t σ H fun vs H1 => ∀ x dx, H1 x = none → H1 dx = none → dx ≠ x →
  sp (.ref x :: vs) (upd (upd H1 dx (.own x)) x (.ins C dx [])) (fun v H2 => v = .non ∧ Q (.ref x) H2) (E σ)
theorem run_makeD {pins : List (Addr × Obj)} {σ : L2.St} {H : Hp} {s : Shared} {Q : VK} {us : List Value} {vs : List V} (M : Mk X.K C f) (F : FnOk X.prog X.w X.K X.mg X.base CX k f fd ps sp) (hr : Room (k + 1) X.A) (hb : Binds X.K fd ps [])
    (hx : PassesAt CX X σ (E σ)) (I : Inv X pins σ H s) (r : Vals vs us)
    (h : ∀ x dx, H x = none → H dx = none → dx ≠ x → sp (.ref x :: vs) (upd (upd H dx (.own x)) x (.ins C dx [])) (fun v H2 => v = .non ∧ Q (.ref x) H2) (E σ)) :
    wpAny (model X.prog X.w) X.A (call (.ref C) us) (EP X pins σ Q) X.xe s := by
  have hq := h (s.heap.objs.size + 1) s.heap.objs.size (I.hok.fresh (Nat.le_succ _)) (I.hok.fresh (Nat.le_refl _)) (Nat.ne_of_lt (Nat.lt_succ_self _))
  have I2 := Inv.made (C := C) I
  have r2 : Vals (V.ref (s.heap.objs.size + 1) :: vs) (Value.ref (s.heap.objs.size + 1) :: us) := .cons rfl r
  have hl : (Value.ref (s.heap.objs.size + 1) :: us ++ []).length = ps.length := by
    have e := r2.length
    rw [F.len _ _ _ _ hq] at e
    rw [List.append_nil]
    exact e.symm
  have hb' := hb _ (Value.ref (s.heap.objs.size + 1) :: us) I2.kIn hl
  rw [List.append_nil] at hb'
  refine wpAny_call (make_map (f := f) I.kIn M.makes M.init (beq_iff_eq.mp M.fn) (codeAny_mono (F.run _ X.stack _ _ ⟨Value.ref (s.heap.objs.size + 1) :: us, []⟩ (Value.ref (s.heap.objs.size + 1) :: us) _ _ (E σ) (hr.make C us [])
    (I2.env0.make C us []) hb' r2 hq) fun r s' hq' => ?_))
  cases r with
  | error e => exact hx pins _ _ e s' I2 hq'
  | ok fl =>
    cases fl with
    | ret u =>
      obtain ⟨v, H', I3, rv, ev, q3⟩ := I2.after hq'
      subst ev
      exact ⟨rv, ⟨V.ref (s.heap.objs.size + 1), H', I3, rfl, q3⟩⟩
    | next => exact False.elim hq'
    | brk => exact False.elim hq'
    | cont => exact False.elim hq'
theorem pe_makeD (M : Mk X.K C f) (F : FnOk X.prog X.w X.K X.mg X.base CX k f fd ps sp) (hr : Room (k + 1) X.A) (hg : Gl X x) (hm : X.mg x = some (.ref C)) (hb : Binds X.K fd ps []) (hx : ∀ σ, PassesAt CX X σ (E σ))
    (ha : PA X (e :: es) t) (hdb : (x == ("__debug__" : Str)) = false := by decide) (he : starEach (e :: es) X.env = (false, eval e X.env) :: starEach es X.env := by rfl) (hpl : (backTo pos (starEach es X.env)).any (·.1) = false := by rfl) :
    PE X (.Call (.Name x p) (e :: es) [] pos) (tMakeD C sp E t) := by
  refine ⟨fun pins s σ H Q I h => ?_⟩
  refine wpAny_Call_Name_kw (ld_glob I hg hm ?_ hdb)
  refine PySem.W.callWith_K (h₀ := X.base) I.ok.mod.kin M.kp (thn (ha.run pos pins s σ H _ I h) fun us s1 ⟨vs, H1, I1, r, q⟩ => ⟨I1.kIn, ?_⟩) he hpl
  exact run_makeD M F hr hb (hx σ) I1 r q
def tMakeKD (C : Addr) (n m : Nat) (sp : Sp) (gV : List V → List V → List V) (E : L2.St → XK) (t tk : TA) : TE := fun σ H Q => t σ H fun vs H1 => tk σ H1 fun zs H2 => vs.length = n ∧ zs.length = m ∧ ∀ x dx, H2 x = none → H2 dx = none → dx ≠ x →
  sp (gV (.ref x :: vs) zs) (upd (upd H2 dx (.own x)) x (.ins C dx [])) (fun v H3 => v = .non ∧ Q (.ref x) H3) (E σ)
variable {n : Nat} {ks : List Str} {g : List Value → List Value → List Value} {gV : List V → List V → List V} {kws : List Keyword} {tk : TA}
theorem run_makeKD {pins : List (Addr × Obj)} {σ : L2.St} {H : Hp} {s : Shared} {Q : VK} {us ws : List Value} {vs zs : List V} (M : Mk X.K C f) (F : FnOk X.prog X.w X.K X.mg X.base CX k f fd ps sp) (hr : Room (k + 1) X.A) (hb : KBn X.K fd ps (n + 1) ks g gV) (hx : PassesAt CX X σ (E σ))
    (I : Inv X pins σ H s) (r : Vals vs us) (rz : Vals zs ws) (l1 : vs.length = n) (l2 : zs.length = ks.length)
    (h : ∀ x dx, H x = none → H dx = none → dx ≠ x → sp (gV (.ref x :: vs) zs) (upd (upd H dx (.own x)) x (.ins C dx [])) (fun v H2 => v = .non ∧ Q (.ref x) H2) (E σ)) :
    wpAny (model X.prog X.w) X.A (call (.ref C) us (ks.zip ws)) (EP X pins σ Q) X.xe s := by
  have hq := h (s.heap.objs.size + 1) s.heap.objs.size (I.hok.fresh (Nat.le_succ _)) (I.hok.fresh (Nat.le_refl _)) (Nat.ne_of_lt (Nat.lt_succ_self _))
  have I2 := Inv.made (C := C) I
  have r1 : Vals (V.ref (s.heap.objs.size + 1) :: vs) (Value.ref (s.heap.objs.size + 1) :: us) := .cons rfl r
  have r2 := hb.rel r1 rz
  have n1 : (Value.ref (s.heap.objs.size + 1) :: us).length = n + 1 := by
    rw [List.length_cons, ← r.length, l1]
  refine wpAny_call (make_map (f := f) I.kIn M.makes M.init (beq_iff_eq.mp M.fn) (codeAny_mono (F.run _ X.stack _ _ ⟨Value.ref (s.heap.objs.size + 1) :: us, ks.zip ws⟩ (g (Value.ref (s.heap.objs.size + 1) :: us) ws) _ _ (E σ) (hr.make C us (ks.zip ws))
    (I2.env0.make C us (ks.zip ws)) (hb.to _ (Value.ref (s.heap.objs.size + 1) :: us) ws I2.kIn n1 (rz.length.symm.trans l2)) r2 hq) fun r s' hq' => ?_))
  cases r with
  | error e => exact hx pins _ _ e s' I2 hq'
  | ok fl =>
    cases fl with
    | ret u =>
      obtain ⟨v, H', I3, rv, ev, q3⟩ := I2.after hq'
      subst ev
      exact ⟨rv, ⟨V.ref (s.heap.objs.size + 1), H', I3, rfl, q3⟩⟩
    | next => exact False.elim hq'
    | brk => exact False.elim hq'
    | cont => exact False.elim hq'
theorem pe_makeKD (M : Mk X.K C f) (F : FnOk X.prog X.w X.K X.mg X.base CX k f fd ps sp) (hr : Room (k + 1) X.A) (hg : Gl X x) (hm : X.mg x = some (.ref C)) (hb : KBn X.K fd ps (n + 1) ks g gV) (hx : ∀ σ, PassesAt CX X σ (E σ)) (ha : PA X (e :: es) t) (hkw : PK X kws tk)
    (hall : (backToKw pos (keywordEach kws X.env)).all (·.1.isSome) = true := by rfl) (hks : (backToKw pos (keywordEach kws X.env)).filterMap (·.1) = ks := by rfl) (hdb : (x == ("__debug__" : Str)) = false := by decide)
    (he : starEach (e :: es) X.env = (false, eval e X.env) :: starEach es X.env := by rfl) (hpl : ((backTo pos (starEach (e :: es) X.env)).any (·.1) || (backToKw pos (keywordEach kws X.env)).any (·.1.isNone)) = false := by rfl) :
    PE X (.Call (.Name x p) (e :: es) kws pos) (tMakeKD C n ks.length sp gV E t tk) := by
  refine ⟨fun pins s σ H Q I h => ?_⟩
  refine wpAny_Call_Name_kw (ld_glob I hg hm ?_ hdb)
  refine PySem.W.callWith_KW (h₀ := X.base) I.ok.mod.kin M.kp hall (thn (ha.run pos pins s σ H _ I h) fun us s1 ⟨vs, H1, I1, r, q⟩ => ?_) hpl he
  refine thn (hkw.run pos pins s1 σ H1 _ I1 q) fun ws s2 ⟨zs, H2, I2, rz, l1, l2, q2⟩ => ⟨I2.kIn, ?_⟩
  rw [hks]
  exact run_makeKD M F hr hb (hx σ) I2 r rz l1 l2 q2
structure CFn (K : PySem.W.Frag) (C : Addr) (m : Str) (g : Addr) : Prop where
  rd : PySem.W.readsIn K C (.type "type") = true
  ga : PySem.W.specialIn K (.ref C) "__getattribute__" = some (some (.builtin "type.__getattribute__"))
  at_ : PySem.W.findCls K (.ref C) (.type "type") m = some (.val (.ref g)) ∨ ∃ p rest, PySem.W.findCls K (.ref C) (.type "type") m = some (.get (.builtin "staticmethod.__get__") (.ref p) .none (.ref C)) ∧ PySem.W.recIn K p "staticmethod" = some (.ref g :: rest)
  kp : PySem.W.keepIn K (.ref g) = true
theorem getm_cfn {pl : Sem Bool} {pins : List (Addr × Obj)} {σ : L2.St} {H : Hp} {s : Shared} {g : Addr} {Q : Value × List Value → Shared → Prop} {A : Around} {E : Value → Shared → Prop} (I : Inv X pins σ H s) (r : CFn X.K C m g)
    (h : ∀ s', Inv X pins σ H s' → Q (.ref g, []) s') : wpAny (model X.prog X.w) A (getMethod (.ref C) m pl) Q E s := by
  refine PySem.W.method_cls I.kIn r.ga ?_
  rcases r.at_ with e | ⟨p, rest, e, hp⟩
  · exact PySem.W.cls_value I.kIn r.rd e rfl (h _ (I.tok _))
  · refine PySem.W.cls_bind I.kIn r.rd e ?_
    exact wpAny_call (PySem.W.sm_get (s := { s with toks := s.toks + 1 }) I.kIn hp (PySem.W.handed_on rfl (h _ (I.tok _))))
def tCFn (sp : Sp) (E : L2.St → XK) (t : TA) : TE := fun σ H Q => t σ H fun vs H1 => sp vs H1 Q (E σ)
theorem pe_cfn {pl : Sem Bool} {g : Addr} {xc : Str} {pc : Pos} (hg : Gl X xc) (hmc : X.mg xc = some (.ref C)) (r : CFn X.K C m g) (F : FnOk X.prog X.w X.K X.mg X.base CX k g fd ps sp) (hr : Room k X.A) (hb : Binds X.K fd ps []) (hx : ∀ σ, PassesAt CX X σ (E σ)) (ha : PA X (e :: es) t)
    (hdb : (xc == ("__debug__" : Str)) = false := by decide) (hst : starEach (e :: es) X.env = (false, eval e X.env) :: starEach es X.env := by rfl) (hpl : (backTo pos (starEach es X.env)).any (·.1) = false := by rfl)
    (ht : eval (.Call (.Attribute (.Name xc pc) m apos) (e :: es) [] pos) X.env = (do
      let ov ← eval (.Name xc pc) X.env
      standAt apos.atName
      let (f, first) ← holding [ov] (getMethod ov m pl)
      callWith pos f first (backTo pos (starEach (e :: es) X.env)) (backToKw pos (keywordEach [] X.env))) := by rfl) :
    PE X (.Call (.Attribute (.Name xc pc) m apos) (e :: es) [] pos) (tCFn sp E t) := by
  refine ⟨fun pins s σ H Q I h => ?_⟩
  refine PySem.W.methodCall_KW (pl := pl) (ld_glob I hg hmc ?_ hdb) ht
  refine getm_cfn I r fun s1 I1 => ?_
  refine PySem.W.callWith_K (first := []) (h₀ := X.base) I.ok.mod.kin r.kp (thn (ha.run pos pins s1 σ H _ I1 h) fun us s2 ⟨vs, H2, I2, rv, q2⟩ => ⟨I2.kIn, ?_⟩) hst hpl
  exact run_fn0D F hr hb (hx σ) I2 rv q2
end
section
variable {X : Cx} {Y : Cy} {a b c e o : Expr} {es : List Expr} {fa fb fc fo : DE} {fs : DA} {pos p p2 apos pc : Pos} {x m xc : Str} {den : List D → R D} {init : D → List D → R (D × D)} {j n : Nat}
/-- what a callee's promise asks, from what is wanted of its answer -/
theorem dsp_of {O : Addr → Prop} {σ : L2.St} {ρ : DEnv} {H : Hp} {Q : VK} {ds : List D} {vs : List V} (s : SR Y O ρ σ H) (r : RepL Y.G (Zo Y.Ze O) H ds vs) (h : EPost Y O σ H Q (den ds)) : dsp Y.G den vs H Q (WE Y.E σ) := by
  refine ⟨Zo Y.Ze O, ds, s.zt, r, ?_⟩
  cases e : den ds with
  | ok d => rw [e] at h; exact h
  | ex x => rw [e] at h; exact h
  | no => rw [e] at h; exact h
theorem call_imp (σ : L2.St) (H : Hp) (Q : VK) (h : tD Y (eCall den fs) σ H Q) : tDA Y fs σ H (fun vs H1 => dsp Y.G den vs H1 Q (WE Y.E σ)) := by
  obtain ⟨O, ρ, s, q⟩ := h
  refine ⟨O, ρ, s, ?_⟩
  unfold eCall at q
  cases ea : fs ρ with
  | ex e => rw [ea] at q; exact q
  | no => rw [ea] at q; exact q
  | ok ds =>
    rw [ea] at q
    intro vs H1 s1 rs
    exact dsp_of (s.same s1) rs (EPost.fwd s1 q)
theorem pd_call (F : Fk X.prog X.w X.K X.mg X.base Y.G x den j) (hj : j ≤ Y.lv) (hg : Gl X x) (ha : PDA X Y (e :: es) fs) (hdb : (x == ("__debug__" : Str)) = false := by decide) (he : starEach (e :: es) X.env = (false, eval e X.env) :: starEach es X.env := by rfl)
    (hpl : (backTo pos (starEach es X.env)).any (·.1) = false := by rfl) (hca : Y.ca = true := by rfl) : PD X Y (.Call (.Name x p) (e :: es) [] pos) (eCall den fs) := fun k => by
  obtain ⟨f, fd, ps, F, hm, hk, hb⟩ := F
  refine impPE (pe_callSD (E := WE Y.E) (dvs := []) F ((k.room hca).mono hj) hg hm hk hb .nil (fun σ => passAt k.tk σ) (ha k) hdb he hpl) fun σ H Q h => ?_
  have := call_imp σ H Q h
  unfold tCallSD
  simpa only [List.append_nil] using this
theorem pd_cfn {pl : Sem Bool} {C g : Addr} {fd : FuncData} {ps : List Str} (hg : Gl X xc) (hmc : X.mg xc = some (.ref C)) (r : CFn X.K C m g) (F : FnOk X.prog X.w X.K X.mg X.base (L2.CX X.prog X.w) j g fd ps (dsp Y.G den)) (hb : Binds X.K fd ps []) (hj : j ≤ Y.lv) (ha : PDA X Y (e :: es) fs)
    (hdb : (xc == ("__debug__" : Str)) = false := by decide) (hst : starEach (e :: es) X.env = (false, eval e X.env) :: starEach es X.env := by rfl) (hpl : (backTo pos (starEach es X.env)).any (·.1) = false := by rfl)
    (ht : eval (.Call (.Attribute (.Name xc pc) m apos) (e :: es) [] pos) X.env = (do
      let ov ← eval (.Name xc pc) X.env
      standAt apos.atName
      let (f, first) ← holding [ov] (getMethod ov m pl)
      callWith pos f first (backTo pos (starEach (e :: es) X.env)) (backToKw pos (keywordEach [] X.env))) := by rfl) (hca : Y.ca = true := by rfl) :
    PD X Y (.Call (.Attribute (.Name xc pc) m apos) (e :: es) [] pos) (eCall den fs) := fun k =>
  impPE (pe_cfn (E := WE Y.E) hg hmc r F ((k.room hca).mono hj) hb (fun σ => passAt k.tk σ) (ha k) hdb hst hpl ht) fun σ H Q h => call_imp σ H Q h
theorem no_look : ∀ {ks : List Str} {vs : List V} {m : Str}, m ∉ ks → (fKeys ks vs).lookup m = none
  | [], vs, m, _ => by cases vs <;> rfl
  | k :: ks, [], m, _ => rfl
  | k :: ks, v :: vs, m, h => by
    have h1 : (m == k) = false := beq_eq_false_iff_ne.mpr fun q => h (by rw [q]; exact List.mem_cons_self)
    simp only [fKeys, List.lookup_cons, h1]
    exact no_look fun q => h (List.mem_cons_of_mem _ q)
/-- the promise of an __init__ at the new object -/
theorem make_of {cn : String} {O : Addr → Prop} {σ : L2.St} {ρ : DEnv} {H : Hp} {Q : VK} {ds : List D} {vs : List V} (hc : Y.G.has cn) (s : SR Y O ρ σ H) (r : RepL Y.G (Zo Y.Ze O) H ds vs) (h : EPost Y O σ H Q (mkD cn init ds)) (x dx : Addr) (hx : H x = none) (hd : H dx = none) (ne : dx ≠ x) :
    dspM Y.G init (.ref x :: vs) (upd (upd H dx (.own x)) x (.ins (Y.G.cm cn) dx [])) (fun v H2 => v = .non ∧ Q (.ref x) H2) (WE Y.E σ) := by
  have s1 : Same H (upd (upd H dx (.own x)) x (.ins (Y.G.cm cn) dx [])) := fun b o e => by
    rw [upd_ne (ne_of_none e hx), upd_ne (ne_of_none e hd)]
    exact e
  have hz : ∀ b, (fun b => Zo Y.Ze O b ∨ b = x) b → upd (upd H dx (.own x)) x (.ins (Y.G.cm cn) dx []) b ≠ none := fun b z q => by
    rcases z with z | rfl
    · exact s.zt b z (s1.free q)
    · rw [upd_same] at q; cases q
  have r1 : RepL Y.G (fun b => Zo Y.Ze O b ∨ b = x) (upd (upd H dx (.own x)) x (.ins (Y.G.cm cn) dx [])) ds vs :=
    RepL.mono (Same.sub s1) (fun b z => z.elim .inl fun e => .inr (by rw [e]; exact hx)) r
  refine ⟨fun b => Zo Y.Ze O b ∨ b = x, x, .obj cn [] [], vs, ds, rfl, .inr rfl, hz, ⟨cn, [], [], dx, [], rfl, upd_same, ⟨rfl, hc, fun f z => by cases z⟩, rfl⟩, r1, ?_⟩
  unfold mkD at h
  cases e : init (.obj cn [] []) ds with
  | no => rw [e] at h; exact h
  | ex y =>
    rw [e] at h
    intro c od H' s' _ xr
    refine h c od H' (fun b o q => s' b o (ne_of_none q hx) (s1 b o q)) ?_
    obtain ⟨e1, d, us, e2, e3, e4, e5⟩ := xr
    exact ⟨e1, d, us, e2, e3, e4, e5.weak fun b z => .inl z⟩
  | ok p =>
    rw [e] at h
    obtain ⟨d, s'⟩ := p
    simp only [R.bind_ok] at h
    cases d with
    | non =>
      intro v H' sm ob rv
      refine ⟨rv, h _ H' (fun b o q => sm b o (ne_of_none q hx) (s1 b o q)) ?_⟩
      obtain ⟨c, ks, l, dx', us, e1, e2, e3, e4⟩ := ob
      have e1 : s' = .obj c ks l := e1
      subst e1
      exact ⟨x, dx', us, rfl, fun z => s.zt x z hx, e2, e3, e4.weak fun b z => .inl z⟩
    | _ => exact h.elim
theorem make_imp {cn : String} {t : TA} (hc : Y.G.has cn) (σ : L2.St) (H : Hp) (Q : VK) (ht : ∀ σ H Q, tDA Y fs σ H Q → t σ H Q) (h : tD Y (eCall (mkD cn init) fs) σ H Q) : tMakeD (Y.G.cm cn) (dspM Y.G init) (WE Y.E) t σ H Q := by
  obtain ⟨O, ρ, s, q⟩ := h
  refine ht σ H _ ⟨O, ρ, s, ?_⟩
  unfold eCall at q
  cases ea : fs ρ with
  | ex e => rw [ea] at q; exact q
  | no => rw [ea] at q; exact q
  | ok ds =>
    rw [ea] at q
    intro vs H1 s1 rs x dx hx hd ne
    exact make_of hc (s.same s1) rs (EPost.fwd s1 q) x dx hx hd ne
theorem pd_make {cn : String} (M : Ck X.prog X.w X.K X.mg X.base Y.G x cn init j) (hj : j + 1 ≤ Y.lv) (hg : Gl X x) (ha : PDA X Y (e :: es) fs) (hdb : (x == ("__debug__" : Str)) = false := by decide) (he : starEach (e :: es) X.env = (false, eval e X.env) :: starEach es X.env := by rfl)
    (hpl : (backTo pos (starEach es X.env)).any (·.1) = false := by rfl) (hca : Y.ca = true := by rfl) : PD X Y (.Call (.Name x p) (e :: es) [] pos) (eCall (mkD cn init) fs) := fun k => by
  obtain ⟨f, fd, ps, F, hk, hm, hb, hc⟩ := M
  exact impPE (pe_makeD (E := WE Y.E) hk F ((k.room hca).mono hj) hg hm hb (fun σ => passAt k.tk σ) (ha k) hdb he hpl) fun σ H Q h => make_imp hc σ H Q (fun _ _ _ q => q) h
def PDK (X : Cx) (Y : Cy) (kws : List Keyword) (f : DA) : Prop := Lk X Y → PK X kws (tDA Y f)
theorem impPK {X : Cx} {kws : List Keyword} {t t' : TA} (h : PK X kws t) (i : ∀ σ H Q, t' σ H Q → t σ H Q) : PK X kws t' := ⟨fun p pins s σ H Q I q => h.run p pins s σ H Q I (i σ H Q q)⟩
theorem dk_nil : PDK X Y [] aNil := fun k => impPK pk_nil fun σ H Q ⟨O, ρ, s, q⟩ => q [] H (Same.refl H) rfl
theorem dk_cons {kws : List Keyword} {nm : Option Str} {kpos : Pos} (ha : PD X Y a fa) (hr : PDK X Y kws fs) : PDK X Y (⟨nm, a, kpos⟩ :: kws) (aCons fa fs) := fun k => impPK (pk_cons (ha k) (hr k)) fun σ H Q ⟨O, ρ, s, q⟩ => by
  refine ⟨O, ρ, s, ?_⟩
  unfold aCons at q
  cases ea : fa ρ with
  | ex e => rw [ea] at q; exact q
  | no => rw [ea] at q; exact q
  | ok dx =>
    rw [ea] at q
    simp only [R.bind_ok] at q
    intro x H1 s1 rx
    refine ⟨O, ρ, s.same s1, ?_⟩
    cases eb : fs ρ with
    | ex e => rw [eb] at q; exact ex_fwd s1 q
    | no => rw [eb] at q; exact q
    | ok ds =>
      rw [eb] at q
      intro vs H2 s2 rs
      exact q _ H2 (s1.trans s2) (RepL.cons (rx.same s2) rs)
theorem pd_makeK {cn : String} {ks : List Str} {gD : List D → List D → List D} {kws : List Keyword} {fk : DA} {m : Nat} (M : CkK X.prog X.w X.K X.mg X.base Y.G x cn n ks gD init j) (hj : j + 1 ≤ Y.lv) (hg : Gl X x) (ha : PDA X Y (e :: es) fs) (hkw : PDK X Y kws fk) (hkl : ks.length = m)
    (hall : (backToKw pos (keywordEach kws X.env)).all (·.1.isSome) = true := by rfl) (hks : (backToKw pos (keywordEach kws X.env)).filterMap (·.1) = ks := by rfl) (hdb : (x == ("__debug__" : Str)) = false := by decide)
    (he : starEach (e :: es) X.env = (false, eval e X.env) :: starEach es X.env := by rfl) (hpl : ((backTo pos (starEach (e :: es) X.env)).any (·.1) || (backToKw pos (keywordEach kws X.env)).any (·.1.isNone)) = false := by rfl) (hca : Y.ca = true := by rfl) :
    PD X Y (.Call (.Name x p) (e :: es) kws pos) (eMkK n m cn gD init fs fk) := fun k => by
  subst hkl
  obtain ⟨f, fd, ps, g, gV, F, hk, hm, hb, hc, hr⟩ := M
  refine impPE (pe_makeKD (E := WE Y.E) hk F ((k.room hca).mono hj) hg hm hb (fun σ => passAt k.tk σ) (ha k) (hkw k) hall hks hdb he hpl) fun σ H Q h => ?_
  obtain ⟨O, ρ, s, q⟩ := h
  refine ⟨O, ρ, s, ?_⟩
  unfold eMkK at q
  cases ea : fs ρ with
  | ex e => rw [ea] at q; exact q
  | no => rw [ea] at q; exact q
  | ok ds =>
    rw [ea] at q
    simp only [R.bind_ok] at q
    intro vs H1 s1 rs
    refine ⟨O, ρ, s.same s1, ?_⟩
    cases eb : fk ρ with
    | ex e => rw [eb] at q; exact ex_fwd s1 q
    | no => rw [eb] at q; exact q
    | ok es' =>
      rw [eb] at q
      simp only [R.bind_ok] at q
      intro zs H2 s2 rz
      split at q
      · rename_i hl
        refine ⟨rs.length.symm.trans hl.1, rz.length.symm.trans hl.2, fun x dx hx hd ne => ?_⟩
        exact make_of hc (s.same (s1.trans s2)) (hr _ _ _ _ _ _ hl.1 hl.2 (rs.same s2) rz) (EPost.fwd (s1.trans s2) q) x dx hx hd ne
      · exact q.elim
end
end Tw

set_option maxHeartbeats 2000000
namespace Tw
open PySem PySem.Spec L2
open PyProof.Rows hiding St
section
variable {Y : Cy} {O : Addr → Prop} {ρ : DEnv} {σ : L2.St} {H H' : Hp} {α : Nat → Addr}
theorem isOwn_none {i : Nat} (h : ρ[i]? = some none) : ¬ isOwn ρ i := fun ⟨d, k⟩ => by
  rcases k with k | k | k <;> rw [h] at k <;> cases k
theorem set_at {i j : Nat} {x : Option Slot} {y : Option Slot} (h : (ρ.set i x)[j]? = some y) : (j = i ∧ y = x) ∨ (j ≠ i ∧ ρ[j]? = some y) := by
  by_cases e : j = i
  · subst e
    have hl : j < (ρ.set j x).length := (List.getElem?_eq_some_iff.mp h).1
    rw [List.length_set] at hl
    rw [List.getElem?_set_self hl] at h
    exact .inl ⟨rfl, (Option.some.inj h).symm⟩
  · rw [List.getElem?_set_ne (Ne.symm e)] at h
    exact .inr ⟨e, h⟩
theorem isOwn_set {i j : Nat} {x : Option Slot} (h : isOwn (ρ.set i x) j) : (j = i ∧ ∃ d, x = some (.own d) ∨ x = some (.slf d) ∨ x = some (.gho d)) ∨ (j ≠ i ∧ isOwn ρ j) := by
  obtain ⟨d, h⟩ := h
  rcases h with h | h | h
  all_goals
    rcases set_at h with ⟨e, q⟩ | ⟨e, q⟩
  · exact .inl ⟨e, d, .inl q.symm⟩
  · exact .inr ⟨e, d, .inl q⟩
  · exact .inl ⟨e, d, .inr (.inl q.symm)⟩
  · exact .inr ⟨e, d, .inr (.inl q)⟩
  · exact .inl ⟨e, d, .inr (.inr q.symm)⟩
  · exact .inr ⟨e, d, .inr (.inr q)⟩
theorem RepG.weak {G : Gc} {Z Z' : Addr → Prop} {ρ ρ' : DEnv} (z : ∀ a, Z' a → Z a) (g : ∀ (j : Nat) d, ρ[j]? = some (some (.gho d)) → ∃ d', ρ'[j]? = some (some (.gho d'))) {d : D} {v : V} (h : RepG G Z α ρ H d v) : RepG G Z' α ρ' H d v := by
  cases d with
  | gst j => obtain ⟨e, d', k⟩ := h; exact ⟨e, g j d' k⟩
  | _ => exact Rep.weak z h
theorem RepGL.weak {G : Gc} {Z Z' : Addr → Prop} {ρ ρ' : DEnv} (z : ∀ a, Z' a → Z a) (g : ∀ (j : Nat) d, ρ[j]? = some (some (.gho d)) → ∃ d', ρ'[j]? = some (some (.gho d'))) : ∀ {ds : List D} {vs : List V}, RepGL G Z α ρ H ds vs → RepGL G Z' α ρ' H ds vs
  | [], vs, h => h
  | d :: ds, vs, h => by
    obtain ⟨v, r, e, h1, h2⟩ := h
    exact ⟨v, r, e, RepG.weak z g h1, RepGL.weak z g h2⟩
theorem RepW.weak {G : Gc} {Z Z' : Addr → Prop} (z : ∀ a, Z' a → Z a) {d : D} {v : V} (h : RepW G Z H d v) : RepW G Z' H d v := by
  cases d with
  | lst l => obtain ⟨a, vs, e, t, r⟩ := h; exact ⟨a, vs, e, t, r.weak z⟩
  | dct ks l => obtain ⟨a, vs, e, t, k, r⟩ := h; exact ⟨a, vs, e, t, k, r.weak z⟩
  | obj c ks l => obtain ⟨a, dx, vs, e, t, k, r⟩ := h; exact ⟨a, dx, vs, e, t, k, r.weak z⟩
  | _ => exact Rep.weak z h
def notP : Option Slot → Bool
  | some .ptr => false
  | some (.pin _) => false
  | _ => true
theorem ptrA {Y : Cy} {O O' : Addr → Prop} {ρ : DEnv} {σ : L2.St} {H H' : Hp} {k : Nat} {x : Option Slot} (h : PtrOk Y O ρ σ H) (hx : notP x = true) (r : ∀ d v, Rep Y.G (Zo Y.Ze O) H d v → Rep Y.G (Zo Y.Ze O') H' d v) : PtrOk Y O' (ρ.set k x) σ H' := h.to r fun i y e hy => by
  rcases set_at e with ⟨_, q⟩ | ⟨_, q⟩
  · rcases hy with rfl | ⟨d, rfl⟩ <;> (rw [← q] at hx; cases hx)
  · exact ⟨q, rfl⟩
theorem ptrB {Y : Cy} {O O' : Addr → Prop} {ρ : DEnv} {σ : L2.St} {H H' : Hp} {k : Nat} {x : Option Slot} {v : Option V} (h : PtrOk Y O ρ σ H) (hx : notP x = true) (r : ∀ d v, Rep Y.G (Zo Y.Ze O) H d v → Rep Y.G (Zo Y.Ze O') H' d v) : PtrOk Y O' (ρ.set k x) (σ.set k v) H' := h.to r fun i y e hy => by
  rcases set_at e with ⟨_, q⟩ | ⟨n, q⟩
  · rcases hy with rfl | ⟨d, rfl⟩ <;> (rw [← q] at hx; cases hx)
  · exact ⟨q, List.getElem?_set_ne (Ne.symm n)⟩
theorem PtrOk.no {Y : Cy} {O : Addr → Prop} {ρ : DEnv} {σ : L2.St} {H : Hp} (h : ∀ (i : Nat) (x : Slot), ρ[i]? = some (some x) → (x = .ptr ∨ ∃ d, x = .pin d) → False) : PtrOk Y O ρ σ H := ⟨fun i e => (h i _ e (.inl rfl)).elim, fun i d e => (h i _ e (.inr ⟨d, rfl⟩)).elim⟩
/-- a name that holds a value or a container of the def's is forgotten -/
theorem SR.clr {i : Nat} (s : SR Y O ρ σ H) (hi : ∃ x, ρ[i]? = some x ∧ (∀ d, x ≠ some (.slf d)) ∧ ∀ d, x ≠ some (.gho d)) : ∃ O', (∀ a, O' a → O a) ∧ SR Y O' (ρ.set i none) σ H ∧ (¬ isOwn ρ i → ∀ a, O a → O' a) := by
  obtain ⟨α, s⟩ := s
  obtain ⟨x, hx, n1, n2⟩ := hi
  have sub : ∀ j, isOwn (ρ.set i none) j → isOwn ρ j := fun j h => by
    rcases isOwn_set h with ⟨_, d, k | k | k⟩ | ⟨_, k⟩
    · cases k
    · cases k
    · cases k
    · exact k
  have zz : ∀ a, Zo Y.Ze (fun a => ∃ j, isOwn (ρ.set i none) j ∧ α j = a) a → Zo Y.Ze O a := fun a z => z.elim .inl fun ⟨j, k, e⟩ => .inr ((s.oeq a).mpr ⟨j, sub j k, e⟩)
  refine ⟨fun a => ∃ j, isOwn (ρ.set i none) j ∧ α j = a, fun a ⟨j, k, e⟩ => (s.oeq a).mpr ⟨j, sub j k, e⟩, ⟨α, ?_⟩, fun ni a h => ?_⟩
  rotate_left
  · obtain ⟨j, hj, e⟩ := (s.oeq a).mp h
    have hji : j ≠ i := fun e => ni (e ▸ hj)
    obtain ⟨d, hj⟩ := hj
    refine ⟨j, ⟨d, ?_⟩, e⟩
    rw [List.getElem?_set_ne (Ne.symm hji)]
    exact hj
  refine ⟨by rw [List.length_set]; exact s.len, fun j d e => ?_, fun j d e => ?_, fun j d e => ?_, fun j d e => ?_, fun j k hj hk e => s.inj j k (sub j hj) (sub k hk) e, fun a => Iff.rfl, s.zt, fun a ⟨j, k, e⟩ => s.ot a ((s.oeq a).mpr ⟨j, sub j k, e⟩), ptrA s.ptr rfl fun _ _ r => r.weak zz⟩
  · rcases set_at e with ⟨_, q⟩ | ⟨_, q⟩
    · cases q
    · obtain ⟨v, e1, r⟩ := s.val j d q
      exact ⟨v, e1, r.weak zz⟩
  · rcases set_at e with ⟨_, q⟩ | ⟨_, q⟩
    · cases q
    · obtain ⟨e1, n, r⟩ := s.own j d q
      exact ⟨e1, n, r.weak zz⟩
  · rcases set_at e with ⟨_, q⟩ | ⟨_, q⟩
    · cases q
    · obtain ⟨e1, n, c, ks, l, dx, vs, e2, e3, e4, r⟩ := s.slf j d q
      refine ⟨e1, n, c, ks, l, dx, vs, e2, e3, e4, r.weak zz fun k d' hk => ?_⟩
      by_cases hki : k = i
      · subst hki
        rw [hx] at hk
        exact absurd (Option.some.inj hk) (n2 d')
      · exact ⟨d', by rw [List.getElem?_set_ne (Ne.symm hki)]; exact hk⟩
  · rcases set_at e with ⟨_, q⟩ | ⟨_, q⟩
    · cases q
    · obtain ⟨r, k⟩ := s.gho j d q
      exact ⟨r.weak zz, k⟩
/-- a name that holds nothing gets a value -/
theorem SR.putv {i : Nat} {d : D} {v : V} (s : SR Y O ρ σ H) (hi : ρ[i]? = some none) (hn : i < Y.n) (r : Rep Y.G (Zo Y.Ze O) H d v) : SR Y O (ρ.set i (some (.val d))) (σ.set i (some v)) H := by
  obtain ⟨α, s⟩ := s
  have sub : ∀ j, isOwn (ρ.set i (some (.val d))) j ↔ isOwn ρ j := fun j => by
    refine ⟨fun h => ?_, fun h => ?_⟩
    · rcases isOwn_set h with ⟨_, d, k | k | k⟩ | ⟨_, k⟩
      · cases k
      · cases k
      · cases k
      · exact k
    · have hj : j ≠ i := fun e => isOwn_none hi (e ▸ h)
      obtain ⟨d', h⟩ := h
      refine ⟨d', ?_⟩
      rw [List.getElem?_set_ne (Ne.symm hj)]
      exact h
  have hσ : i < σ.length := by rw [s.len.1]; exact hn
  refine ⟨α, by rw [List.length_set, List.length_set]; exact s.len, fun j d' e => ?_, fun j d' e => ?_, fun j d' e => ?_, fun j d' e => ?_, fun j k hj hk e => s.inj j k ((sub j).mp hj) ((sub k).mp hk) e, fun a => ?_, s.zt, s.ot, ptrB s.ptr rfl fun _ _ r => r⟩
  · rcases set_at e with ⟨rfl, q⟩ | ⟨hj, q⟩
    · cases q
      exact ⟨v, List.getElem?_set_self hσ, r⟩
    · obtain ⟨v, e1, r⟩ := s.val j d' q
      exact ⟨v, by rw [List.getElem?_set_ne (Ne.symm hj)]; exact e1, r⟩
  · rcases set_at e with ⟨rfl, q⟩ | ⟨hj, q⟩
    · cases q
    · obtain ⟨e1, n, r⟩ := s.own j d' q
      exact ⟨by rw [List.getElem?_set_ne (Ne.symm hj)]; exact e1, n, r⟩
  · rcases set_at e with ⟨rfl, q⟩ | ⟨hj, q⟩
    · cases q
    · obtain ⟨e1, n, c, ks, l, dx, vs, e2, e3, e4, r⟩ := s.slf j d' q
      refine ⟨by rw [List.getElem?_set_ne (Ne.symm hj)]; exact e1, n, c, ks, l, dx, vs, e2, e3, e4, r.weak (fun _ z => z) fun k d'' hk => ?_⟩
      by_cases hki : k = i
      · subst hki
        rw [hi] at hk
        cases hk
      · exact ⟨d'', by rw [List.getElem?_set_ne (Ne.symm hki)]; exact hk⟩
  · rcases set_at e with ⟨rfl, q⟩ | ⟨hj, q⟩
    · cases q
    · exact s.gho j d' q
  · rw [s.oeq]
    exact ⟨fun ⟨j, k, e⟩ => ⟨j, (sub j).mpr k, e⟩, fun ⟨j, k, e⟩ => ⟨j, (sub j).mp k, e⟩⟩
theorem RepW.mono {G : Gc} {Z Z' : Addr → Prop} (s : Same H H') (z : ∀ a, Z' a → Z a ∨ H a = none) {d : D} {v : V} (h : RepW G Z H d v) : RepW G Z' H' d v := by
  cases d with
  | lst l => obtain ⟨a, vs, e, t, r⟩ := h; exact ⟨a, vs, e, s _ _ t, r.mono (Same.sub s) z⟩
  | dct ks l => obtain ⟨a, vs, e, t, k, r⟩ := h; exact ⟨a, vs, e, s _ _ t, k, r.mono (Same.sub s) z⟩
  | obj c ks l => obtain ⟨a, dx, vs, e, t, k, r⟩ := h; exact ⟨a, dx, vs, e, s _ _ t, k, r.mono (Same.sub s) z⟩
  | _ => exact Rep.mono (Same.sub s) z h
theorem RepGL.mono {G : Gc} {Z Z' : Addr → Prop} {ρ ρ' : DEnv} {α' : Nat → Addr} (s : Same H H') (z : ∀ a, Z' a → Z a ∨ H a = none) (g : ∀ (j : Nat) d, ρ[j]? = some (some (.gho d)) → α' j = α j ∧ ∃ d', ρ'[j]? = some (some (.gho d'))) :
    ∀ {ds : List D} {vs : List V}, RepGL G Z α ρ H ds vs → RepGL G Z' α' ρ' H' ds vs
  | [], vs, h => h
  | d :: ds, vs, h => by
    obtain ⟨v, r, e, h1, h2⟩ := h
    refine ⟨v, r, e, ?_, RepGL.mono s z g h2⟩
    cases d with
    | gst j => obtain ⟨e, d', k⟩ := h1; obtain ⟨e2, d2⟩ := g j d' k; exact ⟨by rw [e2]; exact e, d2⟩
    | _ => exact Rep.mono (Same.sub s) z h1
/-- .. a container of its own -/
theorem SR.puto {i : Nat} {d : D} {p : Addr} (s : SR Y O ρ σ H) (sm : Same H H') (hp0 : H p = none) (hi : ρ[i]? = some none) (hn : i < Y.n) (hp : H' p ≠ none) (r : RepW Y.G (fun a => Zo Y.Ze O a ∨ a = p) H' d (.ref p)) :
    SR Y (fun a => O a ∨ a = p) (ρ.set i (some (.own d))) (σ.set i (some (.ref p))) H' := by
  have zt := s.zt
  obtain ⟨α, s⟩ := s
  have hz : ¬ Zo Y.Ze O p := fun z => zt p z hp0
  have hσ : i < σ.length := by rw [s.len.1]; exact hn
  have hl : i < ρ.length := (List.getElem?_eq_some_iff.mp hi).1
  have sub : ∀ j, isOwn (ρ.set i (some (.own d))) j ↔ j = i ∨ isOwn ρ j := fun j => by
    refine ⟨fun h => ?_, fun h => ?_⟩
    · rcases isOwn_set h with ⟨e, _⟩ | ⟨_, k⟩
      · exact .inl e
      · exact .inr k
    · by_cases hj : j = i
      · subst hj
        exact ⟨d, .inl (List.getElem?_set_self hl)⟩
      · rcases h with h | h
        · exact absurd h hj
        · obtain ⟨d', h⟩ := h
          refine ⟨d', ?_⟩
          rw [List.getElem?_set_ne (Ne.symm hj)]
          exact h
  have zz : ∀ a, Zo Y.Ze (fun a => O a ∨ a = p) a → Zo Y.Ze O a ∨ H a = none := fun a z => by
    rcases z with z | z | rfl
    · exact .inl (.inl z)
    · exact .inl (.inr z)
    · exact .inr hp0
  have aj : ∀ j, isOwn ρ j → (if j = i then p else α j) = α j ∧ α j ≠ p := fun j h => by
    have hj : j ≠ i := fun e => isOwn_none hi (e ▸ h)
    exact ⟨if_neg hj, fun e => hz (.inr (e ▸ (s.oeq _).mpr ⟨j, h, rfl⟩))⟩
  refine ⟨fun j => if j = i then p else α j, by rw [List.length_set, List.length_set]; exact s.len, fun j d' e => ?_, fun j d' e => ?_, fun j d' e => ?_, fun j d' e => ?_, fun j k hj hk e => ?_, fun a => ?_, fun a z q => s.zt a z (sm.free q), fun a z => ?_, ptrB s.ptr rfl fun _ _ r => r.mono (Same.sub sm) zz⟩
  · rcases set_at e with ⟨rfl, q⟩ | ⟨hj, q⟩
    · cases q
    · obtain ⟨v, e1, r⟩ := s.val j d' q
      exact ⟨v, by rw [List.getElem?_set_ne (Ne.symm hj)]; exact e1, r.mono (Same.sub sm) zz⟩
  · rcases set_at e with ⟨rfl, q⟩ | ⟨hj, q⟩
    · cases q
      rw [if_pos rfl]
      exact ⟨List.getElem?_set_self hσ, fun z => hz (.inl z), r.weak fun a z => by rcases z with z | z | z; exact .inl (.inl z); exact .inl (.inr z); exact .inr z⟩
    · obtain ⟨e1, n, r⟩ := s.own j d' q
      rw [if_neg hj]
      exact ⟨by rw [List.getElem?_set_ne (Ne.symm hj)]; exact e1, n, r.mono sm zz⟩
  · rcases set_at e with ⟨rfl, q⟩ | ⟨hj, q⟩
    · cases q
    · obtain ⟨e1, n, c, ks, l, dx, vs, e2, e3, e4, r⟩ := s.slf j d' q
      rw [if_neg hj]
      refine ⟨by rw [List.getElem?_set_ne (Ne.symm hj)]; exact e1, n, c, ks, l, dx, vs, e2, sm _ _ e3, e4, RepGL.mono sm zz (fun k d'' hk => ?_) r⟩
      have hki : k ≠ i := fun e => by subst e; rw [hi] at hk; cases hk
      exact ⟨if_neg hki, d'', by rw [List.getElem?_set_ne (Ne.symm hki)]; exact hk⟩
  · rcases set_at e with ⟨rfl, q⟩ | ⟨hj, q⟩
    · cases q
    · obtain ⟨r, k⟩ := s.gho j d' q
      rw [if_neg hj]
      exact ⟨r.mono sm zz, k⟩
  · rcases (sub j).mp hj with rfl | hj'
    · rcases (sub k).mp hk with rfl | hk'
      · rfl
      · have e : p = if k = j then p else α k := by rw [if_pos rfl] at e; exact e
        rw [(aj k hk').1] at e
        exact absurd e.symm (aj k hk').2
    · rcases (sub k).mp hk with rfl | hk'
      · have e : (if j = k then p else α j) = p := by rw [if_pos (rfl : k = k)] at e; exact e
        rw [(aj j hj').1] at e
        exact absurd e (aj j hj').2
      · have e : (if j = i then p else α j) = if k = i then p else α k := e
        rw [(aj j hj').1, (aj k hk').1] at e
        exact s.inj j k hj' hk' e
  · refine ⟨fun h => ?_, fun ⟨j, h, e⟩ => ?_⟩
    · rcases h with h | rfl
      · obtain ⟨j, hj, e⟩ := (s.oeq a).mp h
        exact ⟨j, (sub j).mpr (.inr hj), (aj j hj).1.trans e⟩
      · exact ⟨i, (sub i).mpr (.inl rfl), if_pos rfl⟩
    · have e : (if j = i then p else α j) = a := e
      rcases (sub j).mp h with rfl | h
      · rw [if_pos rfl] at e
        exact .inr e.symm
      · rw [(aj j h).1] at e
        exact .inl ((s.oeq a).mpr ⟨j, h, e⟩)
  · rcases z with z | rfl
    · exact fun q => s.ot a z (sm.free q)
    · exact hp
/-- the container is given out -/
theorem SR.frz {i : Nat} {d : D} (s : SR Y O ρ σ H) (hi : ρ[i]? = some (some (.own d))) : ∃ O', (∀ a, O' a → O a) ∧ SR Y O' (ρ.set i (some (.val d))) σ H ∧ ∀ a, O a → O' a ∨ RepW Y.G (Zo Y.Ze O) H d (.ref a) := by
  obtain ⟨α, s⟩ := s
  have hl : i < ρ.length := (List.getElem?_eq_some_iff.mp hi).1
  obtain ⟨ei, ni, ri⟩ := s.own i d hi
  have sub : ∀ j, isOwn (ρ.set i (some (.val d))) j → isOwn ρ j ∧ j ≠ i := fun j h => by
    rcases isOwn_set h with ⟨_, d, k | k | k⟩ | ⟨n, k⟩
    · cases k
    · cases k
    · cases k
    · exact ⟨k, n⟩
  have zz : ∀ a, Zo Y.Ze (fun a => ∃ j, isOwn (ρ.set i (some (.val d))) j ∧ α j = a) a → Zo Y.Ze O a := fun a z => z.elim .inl fun ⟨j, k, e⟩ => .inr ((s.oeq a).mpr ⟨j, (sub j k).1, e⟩)
  have nz : ¬ Zo Y.Ze (fun a => ∃ j, isOwn (ρ.set i (some (.val d))) j ∧ α j = a) (α i) := fun z => by
    rcases z with z | ⟨j, k, e⟩
    · exact ni z
    · exact (sub j k).2 (s.inj j i (sub j k).1 ⟨d, .inl hi⟩ e)
  have rv : Rep Y.G (Zo Y.Ze fun a => ∃ j, isOwn (ρ.set i (some (.val d))) j ∧ α j = a) H d (.ref (α i)) := by
    have r := RepW.weak zz ri
    cases d with
    | lst l => obtain ⟨a, vs, e, t, r⟩ := r; cases e; exact ⟨_, vs, rfl, nz, t, r⟩
    | dct ks l => obtain ⟨a, vs, e, t, k, r⟩ := r; cases e; exact ⟨_, vs, rfl, nz, t, k, r⟩
    | obj c ks l => obtain ⟨a, dx, vs, e, t, k, r⟩ := r; cases e; exact ⟨_, dx, vs, rfl, nz, t, k, r⟩
    | _ => exact r
  refine ⟨fun a => ∃ j, isOwn (ρ.set i (some (.val d))) j ∧ α j = a, fun a ⟨j, k, e⟩ => (s.oeq a).mpr ⟨j, (sub j k).1, e⟩, ⟨α, ?_⟩, fun a h => ?_⟩
  rotate_left
  · obtain ⟨j, hj, e⟩ := (s.oeq a).mp h
    by_cases hji : j = i
    · subst hji
      exact .inr (e ▸ ri)
    · obtain ⟨d', hj⟩ := hj
      refine .inl ⟨j, ⟨d', ?_⟩, e⟩
      rw [List.getElem?_set_ne (Ne.symm hji)]
      exact hj
  refine ⟨by rw [List.length_set]; exact s.len, fun j d' e => ?_, fun j d' e => ?_, fun j d' e => ?_, fun j d' e => ?_, fun j k hj hk e => s.inj j k (sub j hj).1 (sub k hk).1 e, fun a => Iff.rfl, s.zt, fun a ⟨j, k, e⟩ => s.ot a ((s.oeq a).mpr ⟨j, (sub j k).1, e⟩), ptrA s.ptr rfl fun _ _ r => r.weak zz⟩
  · rcases set_at e with ⟨rfl, q⟩ | ⟨_, q⟩
    · cases q
      exact ⟨_, ei, rv⟩
    · obtain ⟨v, e1, r⟩ := s.val j d' q
      exact ⟨v, e1, r.weak zz⟩
  · rcases set_at e with ⟨_, q⟩ | ⟨_, q⟩
    · cases q
    · obtain ⟨e1, n, r⟩ := s.own j d' q
      exact ⟨e1, n, r.weak zz⟩
  · rcases set_at e with ⟨_, q⟩ | ⟨_, q⟩
    · cases q
    · obtain ⟨e1, n, c, ks, l, dx, vs, e2, e3, e4, r⟩ := s.slf j d' q
      refine ⟨e1, n, c, ks, l, dx, vs, e2, e3, e4, r.weak zz fun k d'' hk => ?_⟩
      have hki : k ≠ i := fun e => by subst e; rw [hi] at hk; cases hk
      exact ⟨d'', by rw [List.getElem?_set_ne (Ne.symm hki)]; exact hk⟩
  · rcases set_at e with ⟨_, q⟩ | ⟨_, q⟩
    · cases q
    · obtain ⟨r, k⟩ := s.gho j d' q
      exact ⟨r.weak zz, k⟩
/-- the name's container is changed in its place -/
theorem SR.mut {i : Nat} {d d' : D} {o : HO} (s : SR Y O ρ σ H) (hi : ρ[i]? = some (some (.own d))) (k : ∀ p, σ[i]? = some (some (.ref p)) → RepW Y.G (Zo Y.Ze O) H d (.ref p) → H p ≠ none → O p → RepW Y.G (Zo Y.Ze O) (upd H p o) d' (.ref p)) :
    ∃ p, σ[i]? = some (some (.ref p)) ∧ O p ∧ RepW Y.G (Zo Y.Ze O) H d (.ref p) ∧ SR Y O (ρ.set i (some (.own d'))) σ (upd H p o) := by
  obtain ⟨α, s⟩ := s
  have hl : i < ρ.length := (List.getElem?_eq_some_iff.mp hi).1
  obtain ⟨ei, ni, ri⟩ := s.own i d hi
  have oi : isOwn ρ i := ⟨d, .inl hi⟩
  have Oi : O (α i) := (s.oeq _).mpr ⟨i, oi, rfl⟩
  have hne := s.ot _ Oi
  have sub : ∀ j, isOwn (ρ.set i (some (.own d'))) j ↔ isOwn ρ j := fun j => by
    refine ⟨fun h => ?_, fun h => ?_⟩
    · rcases isOwn_set h with ⟨e, _⟩ | ⟨_, k⟩
      · rw [e]; exact oi
      · exact k
    · by_cases hj : j = i
      · subst hj
        exact ⟨d', .inl (List.getElem?_set_self hl)⟩
      · obtain ⟨d'', h⟩ := h
        refine ⟨d'', ?_⟩
        rw [List.getElem?_set_ne (Ne.symm hj)]
        exact h
  have sb : Sub (Zo Y.Ze O) H (upd H (α i) o) := fun a u n e => by
    rw [upd_ne fun q => n (.inr (by rw [q]; exact Oi))]
    exact e
  have an : ∀ j, isOwn ρ j → j ≠ i → α j ≠ α i := fun j h n e => n (s.inj j i h oi e)
  have rw' : ∀ {d : D} {p : Addr}, p ≠ α i → RepW Y.G (Zo Y.Ze O) H d (.ref p) → RepW Y.G (Zo Y.Ze O) (upd H (α i) o) d (.ref p) := fun {d p} hp r => by
    cases d with
    | lst l => obtain ⟨a, vs, e, t, r⟩ := r; cases e; exact ⟨_, vs, rfl, by rw [upd_ne hp]; exact t, r.mono sb fun _ q => .inl q⟩
    | dct ks l => obtain ⟨a, vs, e, t, k, r⟩ := r; cases e; exact ⟨_, vs, rfl, by rw [upd_ne hp]; exact t, k, r.mono sb fun _ q => .inl q⟩
    | obj c ks l => obtain ⟨a, dx, vs, e, t, k, r⟩ := r; cases e; exact ⟨_, dx, vs, rfl, by rw [upd_ne hp]; exact t, k, r.mono sb fun _ q => .inl q⟩
    | _ => exact Rep.mono sb (fun _ q => .inl q) r
  have gl : ∀ {ds : List D} {vs : List V}, RepGL Y.G (Zo Y.Ze O) α ρ H ds vs → RepGL Y.G (Zo Y.Ze O) α (ρ.set i (some (.own d'))) (upd H (α i) o) ds vs := by
    intro ds
    induction ds with
    | nil => intro vs h; exact h
    | cons d ds ih =>
      intro vs h
      obtain ⟨v, r, e, h1, h2⟩ := h
      refine ⟨v, r, e, ?_, ih h2⟩
      cases d with
      | gst j =>
        obtain ⟨e, d'', kk⟩ := h1
        have hki : j ≠ i := fun e => by subst e; rw [hi] at kk; cases kk
        exact ⟨e, d'', by rw [List.getElem?_set_ne (Ne.symm hki)]; exact kk⟩
      | _ => exact Rep.mono sb (fun _ q => .inl q) h1
  refine ⟨α i, ei, Oi, ri, α, by rw [List.length_set]; exact s.len, fun j d'' e => ?_, fun j d'' e => ?_, fun j d'' e => ?_, fun j d'' e => ?_, fun j k hj hk e => s.inj j k ((sub j).mp hj) ((sub k).mp hk) e, fun a => ?_, fun a z q => ?_, fun a z q => ?_, ptrA s.ptr rfl fun _ _ r => r.mono sb fun _ q => .inl q⟩
  · rcases set_at e with ⟨_, q⟩ | ⟨_, q⟩
    · cases q
    · obtain ⟨v, e1, r⟩ := s.val j d'' q
      exact ⟨v, e1, r.mono sb fun _ q => .inl q⟩
  · rcases set_at e with ⟨rfl, q⟩ | ⟨hj, q⟩
    · cases q
      exact ⟨ei, ni, k _ ei ri hne Oi⟩
    · obtain ⟨e1, n, r⟩ := s.own j d'' q
      exact ⟨e1, n, rw' (an j ⟨d'', .inl q⟩ hj) r⟩
  · rcases set_at e with ⟨_, q⟩ | ⟨hj, q⟩
    · cases q
    · obtain ⟨e1, n, c, ks, l, dx, vs, e2, e3, e4, r⟩ := s.slf j d'' q
      exact ⟨e1, n, c, ks, l, dx, vs, e2, by rw [upd_ne (an j ⟨d'', .inr (.inl q)⟩ hj)]; exact e3, e4, gl r⟩
  · rcases set_at e with ⟨_, q⟩ | ⟨hj, q⟩
    · cases q
    · obtain ⟨r, k⟩ := s.gho j d'' q
      exact ⟨rw' (an j ⟨d'', .inr (.inr q)⟩ hj) r, k⟩
  · rw [s.oeq]
    exact ⟨fun ⟨j, k, e⟩ => ⟨j, (sub j).mpr k, e⟩, fun ⟨j, k, e⟩ => ⟨j, (sub j).mp k, e⟩⟩
  · by_cases h : a = α i
    · subst h; rw [upd_same] at q; cases q
    · rw [upd_ne h] at q; exact s.zt a z q
  · by_cases h : a = α i
    · subst h; rw [upd_same] at q; cases q
    · rw [upd_ne h] at q; exact s.ot a z q
end
end Tw

set_option maxHeartbeats 2000000
namespace Tw
open PySem PySem.Spec L2
open PyProof.Rows hiding St
section
variable {X : Cx} {Y : Cy} {O : Addr → Prop} {ρ : DEnv} {σ : L2.St} {H H' : Hp} {α : Nat → Addr}
theorem Stp.drop {O O' : Addr → Prop} {H : Hp} (h : ∀ a, O' a → O a) : Stp O H O' H := ⟨fun _ _ _ e => e, fun a z => .inl (h a z)⟩
/-- the old content goes -/
theorem SR.free {i : Nat} (s : SR Y O ρ σ H) (hi : ∃ x, ρ[i]? = some x ∧ (∀ d, x ≠ some (.slf d)) ∧ ∀ d, x ≠ some (.gho d)) : ∃ O', Stp O H O' H ∧ SR Y O' (ρ.set i none) σ H ∧ (ρ.set i none)[i]? = some none ∧ (∀ a, O' a → O a) ∧ (¬ isOwn ρ i → ∀ a, O a → O' a) := by
  obtain ⟨O', h, s', ho⟩ := s.clr hi
  obtain ⟨x, hx, _⟩ := hi
  exact ⟨O', Stp.drop h, s', List.getElem?_set_self (List.getElem?_eq_some_iff.mp hx).1, h, ho⟩
theorem set_set {α : Type} (l : List α) (i : Nat) (a b : α) : (l.set i a).set i b = l.set i b := by simp
theorem setV_ok {i : Nat} {d : D} {ρ ρ' : DEnv} (h : setV i d ρ = .ok ρ') : (∃ x, ρ[i]? = some x ∧ (∀ d, x ≠ some (.slf d)) ∧ ∀ d, x ≠ some (.gho d)) ∧ ρ' = ρ.set i (some (.val d)) := by
  unfold setV at h
  split at h
  · cases h
  · cases h
  · rename_i x n1 n2 e
    cases h
    exact ⟨⟨x, e, fun d q => n1 d q, fun d q => n2 d q⟩, rfl⟩
  · cases h
theorem setO_ok {i : Nat} {d : D} {ρ ρ' : DEnv} (h : setO i d ρ = .ok ρ') : (∃ x, ρ[i]? = some x ∧ (∀ d, x ≠ some (.slf d)) ∧ ∀ d, x ≠ some (.gho d)) ∧ ρ' = ρ.set i (some (.own d)) := by
  unfold setO at h
  split at h
  · cases h
  · cases h
  · rename_i x n1 n2 e
    cases h
    exact ⟨⟨x, e, fun d q => n1 d q, fun d q => n2 d q⟩, rfl⟩
  · cases h
theorem setV_no {i : Nat} {d : D} {ρ : DEnv} {e : Ex} (h : setV i d ρ = .ex e) : False := by
  unfold setV at h; split at h <;> cases h
theorem setO_no {i : Nat} {d : D} {ρ : DEnv} {e : Ex} (h : setO i d ρ = .ex e) : False := by
  unfold setO at h; split at h <;> cases h
theorem SR.setv {i : Nat} {d : D} {v : V} {ρ' : DEnv} (s : SR Y O ρ σ H) (h : setV i d ρ = .ok ρ') (hn : i < Y.n) (r : Rep Y.G (Zo Y.Ze O) H d v) : ∃ O', Stp O H O' H ∧ SR Y O' ρ' (σ.set i (some v)) H ∧ (∀ a, O' a → O a) ∧ (¬ isOwn ρ i → ∀ a, O a → O' a) := by
  obtain ⟨hi, rfl⟩ := setV_ok h
  obtain ⟨O', st, s', e, sub, ho⟩ := s.free hi
  refine ⟨O', st, ?_, sub, ho⟩
  have := s'.putv e hn (r.weak fun a z => z.elim .inl fun z => .inr (sub a z))
  rwa [set_set] at this
theorem SR.seto {i : Nat} {d : D} {p : Addr} {ρ' : DEnv} (s : SR Y O ρ σ H) (h : setO i d ρ = .ok ρ') (hn : i < Y.n) (sm : Same H H') (hp0 : H p = none) (hp : H' p ≠ none) (r : RepW Y.G (fun a => Zo Y.Ze O a ∨ a = p) H' d (.ref p)) :
    ∃ O', Stp O H O' H' ∧ SR Y O' ρ' (σ.set i (some (.ref p))) H' := by
  obtain ⟨hi, rfl⟩ := setO_ok h
  obtain ⟨O', st, s', e, sub, _⟩ := s.free hi
  refine ⟨fun a => O' a ∨ a = p, ⟨fun a o n q => sm a o q, fun a z => z.elim (fun z => .inl (sub a z)) fun z => .inr (by rw [z]; exact hp0)⟩, ?_⟩
  have := s'.puto sm hp0 e hn hp (r.weak fun a z => by rcases z with (z | z) | z; exact .inl (.inl z); exact .inl (.inr (sub a z)); exact .inr z)
  rwa [set_set] at this
theorem clr1_SR {i : Nat} (s : SR Y O ρ σ H) : ∃ O', Stp O H O' H ∧ SR Y O' (clr1 i ρ) σ H := by
  unfold clr1
  split
  · rename_i d e
    obtain ⟨O', st, s', _⟩ := s.free ⟨_, e, fun _ => (by intro q; cases q), fun _ => (by intro q; cases q)⟩
    exact ⟨O', st, s'⟩
  · rename_i d e
    obtain ⟨O', st, s', _⟩ := s.free ⟨_, e, fun _ => (by intro q; cases q), fun _ => (by intro q; cases q)⟩
    exact ⟨O', st, s'⟩
  · exact ⟨O, Stp.refl, s⟩
theorem clrD_SR : ∀ (is : List Nat) {O : Addr → Prop} {ρ : DEnv}, SR Y O ρ σ H → ∃ O', Stp O H O' H ∧ SR Y O' (clrD is ρ) σ H
  | [], O, ρ, s => ⟨O, Stp.refl, s⟩
  | i :: is, O, ρ, s => by
    obtain ⟨O1, st1, s1⟩ := clr1_SR (i := i) s
    obtain ⟨O2, st2, s2⟩ := clrD_SR is s1
    exact ⟨O2, st1.trans st2, s2⟩
theorem frzD_SR {i : Nat} (s : SR Y O ρ σ H) : ∃ O', Stp O H O' H ∧ SR Y O' (frzD i ρ) σ H := by
  unfold frzD
  split
  · rename_i d e
    obtain ⟨O', h, s', _⟩ := s.frz e
    exact ⟨O', Stp.drop h, s'⟩
  · exact ⟨O, Stp.refl, s⟩
theorem frzs_SR : ∀ (is : List Nat) {O : Addr → Prop} {ρ : DEnv}, SR Y O ρ σ H → ∃ O', Stp O H O' H ∧ SR Y O' (is.foldl (fun r i => frzD i r) ρ) σ H
  | [], O, ρ, s => ⟨O, Stp.refl, s⟩
  | i :: is, O, ρ, s => by
    obtain ⟨O1, st1, s1⟩ := frzD_SR (i := i) s
    obtain ⟨O2, st2, s2⟩ := frzs_SR is s1
    exact ⟨O2, st1.trans st2, s2⟩
theorem SPost.fwd {O O1 : Addr → Prop} {H H1 : Hp} {N : Ends} {r : R Out} (st : Stp O H O1 H1) (h : SPost Y O H N r) : SPost Y O1 H1 N r := by
  cases r with
  | ok o =>
    cases o with
    | nx ρ => exact fun O' σ' H' s' q => h O' σ' H' (st.trans s') q
    | bk ρ => exact fun O' σ' H' s' q => h O' σ' H' (st.trans s') q
    | ct ρ => exact fun O' σ' H' s' q => h O' σ' H' (st.trans s') q
    | rt d ρ => exact fun O' σ' H' v s' q => h O' σ' H' v (st.trans s') q
    | xx e ρ => exact fun O' σ' H' c od s' q => h O' σ' H' c od (st.trans s') q
  | ex e => exact h
  | no => exact h
/-- an expression, then something -/
theorem exp_then {fa : DE} {k : D → R Out} {N : Ends} {Q : VK} (s : SR Y O ρ σ H) (h : SPost Y O H N ((fa ρ).st ρ k)) (hq : ∀ d, fa ρ = .ok d → SPost Y O H N (k d) → ∀ v H1, Same H H1 → Rep Y.G (Zo Y.Ze O) H1 d v → Q v H1) : tD Y fa σ H Q := by
  refine ⟨O, ρ, s, ?_⟩
  cases ea : fa ρ with
  | no => rw [ea] at h; exact h
  | ex e => rw [ea] at h; exact fun c od H1 s1 xr => h O σ H1 c od (Stp.same s1) (s.same s1) xr
  | ok d => rw [ea] at h; exact fun v H1 s1 rv => hq d ea h v H1 s1 rv
theorem expw_then {fa : DE} {k : D → R Out} {N : Ends} {Q : VK} (s : SR Y O ρ σ H) (h : SPost Y O H N ((fa ρ).st ρ k)) (hq : ∀ d, fa ρ = .ok d → SPost Y O H N (k d) → ∀ v H1, Same H H1 → RepW Y.G (Zo Y.Ze O) H1 d v → Q v H1) : tDw Y fa σ H Q := by
  refine ⟨O, ρ, s, ?_⟩
  cases ea : fa ρ with
  | no => rw [ea] at h; exact h
  | ex e => rw [ea] at h; exact fun c od H1 s1 xr => h O σ H1 c od (Stp.same s1) (s.same s1) xr
  | ok d => rw [ea] at h; exact fun v H1 s1 rv => hq d ea h v H1 s1 rv
end
section
variable {X : Cx} {Y : Cy} {st : Stmt} {rest body : List Stmt} {F G1 G2 : DS} {a b e tg : Expr} {fa fb : DE} {pos pos' p2 : Pos}
theorem dss_nil : PDSs X Y [] sNext := fun k => impPSs pss_nil fun N σ H ⟨O, ρ, s, q⟩ => q O σ H Stp.refl s
theorem dss_cons (h1 : PDS X Y st F) (h2 : PDSs X Y rest G1) : PDSs X Y (st :: rest) (sSeq F G1) := fun k => impPSs (pss_cons (h1 k) (h2 k)) fun N σ H ⟨O, ρ, s, q⟩ => by
  refine ⟨O, ρ, s, ?_⟩
  unfold sSeq at q
  cases ea : F ρ with
  | ex e => rw [ea] at q; exact q
  | no => rw [ea] at q; exact q
  | ok o =>
    rw [ea] at q
    cases o with
    | nx ρ' => exact fun O' σ' H' st s' => ⟨O', ρ', s', SPost.fwd st q⟩
    | bk ρ' => exact q
    | ct ρ' => exact q
    | rt d ρ' => exact q
    | xx e ρ' => exact q
theorem dss_one (h1 : PDS X Y st F) : PDSs X Y [st] F := fun k => pss_one (h1 k)
/-- ahead of a statement containers are given out -/
theorem ds_frz (is : List Nat) (h : PDS X Y st F) : PDS X Y st (sFrz is F) := fun k => impPS (h k) fun N σ H ⟨O, ρ, s, q⟩ => by
  obtain ⟨O', st, s'⟩ := frzs_SR is s
  exact ⟨O', _, s', SPost.fwd st q⟩
theorem ds_break : PDS X Y (.Break pos) sBrk := fun k => impPS ps_break fun N σ H ⟨O, ρ, s, q⟩ => q O σ H Stp.refl s
theorem ds_ret (ha : PD X Y a fa) : PDS X Y (.Return (some a) pos) (sRet fa) := fun k => impPS (ps_ret (ha k)) fun N σ H ⟨O, ρ, s, q⟩ =>
  exp_then s q fun d ea q v H1 s1 rv => q O σ H1 v (Stp.same s1) (s.same s1) rv
theorem ds_if {c : Expr} {gc : DT} {A B : List Stmt} (hc : PDT X Y c gc) (ha : PDSs X Y A G1) (hb : PDSs X Y B G2) : PDS X Y (.If c A B pos) (sIf gc G1 G2) := fun k => impPS (ps_if (hc k) (ha k) (hb k)) fun N σ H ⟨O, ρ, s, q⟩ => by
  refine ⟨O, ρ, s, ?_⟩
  unfold sIf at q
  cases ea : gc ρ with
  | no => rw [ea] at q; exact q
  | ex e => rw [ea] at q; exact fun c od H1 s1 xr => q O σ H1 c od (Stp.same s1) (s.same s1) xr
  | ok b =>
    rw [ea] at q
    intro H1 s1
    cases b with
    | true => exact ⟨O, ρ, s.same s1, SPost.fwd (Stp.same s1) q⟩
    | false => exact ⟨O, ρ, s.same s1, SPost.fwd (Stp.same s1) q⟩
theorem ds_set {i : Nat} {x : Str} (hi : X.N[i]? = some x) (hn : i < Y.n) (hx : Loc X.env.scope x) (ha : PD X Y a fa) (hs : swapsWith a (some (.Name x pos')) pos.line X.env = pure false := by rfl) (hf : X.fn x = true ∨ X.env.scope.names.lookup x = some .local := by first | exact .inl rfl | exact .inr rfl | assumption) :
    PDS X Y (.Assign [.Name x pos'] a pos) (sSet i fa) := fun k => impPS (ps_set k.nd hi hx (ha k) hs hf) fun N σ H ⟨O, ρ, s, q⟩ =>
  exp_then s q fun d ea q v H1 s1 rv => by
    cases es : setV i d ρ with
    | no => rw [es] at q; exact q.elim
    | ex e => exact (setV_no es).elim
    | ok ρ' =>
      rw [es] at q
      obtain ⟨O', st, s', _⟩ := (s.same s1).setv es hn rv
      exact q O' _ H1 ((Stp.same s1).trans st) s'
/-- an expression that makes a new container -/
def EPostF (Y : Cy) (O : Addr → Prop) (σ : L2.St) (H : Hp) (Q : VK) : R D → Prop
  | .ok d => ∀ p H', Same H H' → H p = none → H' p ≠ none → RepW Y.G (fun a => Zo Y.Ze O a ∨ a = p) H' d (.ref p) → Q (.ref p) H'
  | .ex e => ∀ c od H', Same H H' → ExRep Y.G (Zo Y.Ze O) H' e c od → Y.E c od σ H'
  | .no => False
def tDF (Y : Cy) (f : DE) : TE := fun σ H Q => ∃ O ρ, SR Y O ρ σ H ∧ EPostF Y O σ H Q (f ρ)
def PDF (X : Cx) (Y : Cy) (e : Expr) (f : DE) : Prop := Lk X Y → PE X e (tDF Y f)
theorem expf_then {O : Addr → Prop} {ρ : DEnv} {σ : L2.St} {H : Hp} {k : D → R Out} {N : Ends} {Q : VK} (s : SR Y O ρ σ H) (h : SPost Y O H N ((fa ρ).st ρ k))
    (hq : ∀ d, fa ρ = .ok d → SPost Y O H N (k d) → ∀ p H1, Same H H1 → H p = none → H1 p ≠ none → RepW Y.G (fun a => Zo Y.Ze O a ∨ a = p) H1 d (.ref p) → Q (.ref p) H1) : tDF Y fa σ H Q := by
  refine ⟨O, ρ, s, ?_⟩
  cases ea : fa ρ with
  | no => rw [ea] at h; exact h
  | ex e => rw [ea] at h; exact fun c od H1 s1 xr => h O σ H1 c od (Stp.same s1) (s.same s1) xr
  | ok d => rw [ea] at h; exact fun p H1 s1 h0 h1 rv => hq d ea h p H1 s1 h0 h1 rv
theorem ds_own {i : Nat} {x : Str} (hi : X.N[i]? = some x) (hn : i < Y.n) (hx : Loc X.env.scope x) (ha : PDF X Y a fa) (hs : swapsWith a (some (.Name x pos')) pos.line X.env = pure false := by rfl) (hf : X.fn x = true ∨ X.env.scope.names.lookup x = some .local := by first | exact .inl rfl | exact .inr rfl | assumption) :
    PDS X Y (.Assign [.Name x pos'] a pos) (sOwn i fa) := fun k => impPS (ps_set k.nd hi hx (ha k) hs hf) fun N σ H ⟨O, ρ, s, q⟩ =>
  expf_then s q fun d ea q p H1 s1 h0 h1 rv => by
    cases es : setO i d ρ with
    | no => rw [es] at q; exact q.elim
    | ex e => exact (setO_no es).elim
    | ok ρ' =>
      rw [es] at q
      obtain ⟨O', st, s'⟩ := s.seto es hn s1 h0 h1 rv
      exact q O' _ H1 st s'
theorem pf_lst {es : List Expr} {fs : DA} (ha : PDA X Y es fs) : PDF X Y (.List es pos) (eLst fs) := fun k => impPE (pe_lst (ha k)) fun σ H Q ⟨O, ρ, s, q⟩ => by
  refine ⟨O, ρ, s, ?_⟩
  unfold eLst at q
  cases ea : fs ρ with
  | no => rw [ea] at q; exact q
  | ex e => rw [ea] at q; exact q
  | ok ds =>
    rw [ea] at q
    simp only [R.bind_ok] at q
    intro vs H1 s1 rs
    split at q
    · rename_i hl
      refine ⟨by rw [lineD_eq, ← rs.length]; exact hl, fun n hn => q n _ (s1.trans (same_new hn)) (s1.free hn) (by rw [upd_same]; exact fun z => by cases z) ⟨n, _, rfl, upd_same, ?_⟩⟩
      exact rs.mono (Same.sub (same_new hn)) fun a z => z.elim .inl fun e => .inr (by rw [e]; exact hn)
    · exact q.elim
theorem pf_dict0 : PDF X Y (.Dict [] [] pos) (eC (.dct [] [])) := fun k => impPE pe_dnewK fun σ H Q ⟨O, ρ, s, q⟩ n hn =>
  q n _ (same_new hn) hn (by rw [upd_same]; exact fun z => by cases z) ⟨n, [], rfl, upd_same, rfl, rfl⟩
end
end Tw

set_option maxHeartbeats 2000000
namespace Tw
open PySem PySem.Spec L2
open PyProof.Rows hiding St
def WalkS (G : Gc) (Z : Addr → Prop) (H0 : Hp) (J : It) (l : List D) : Prop := ∀ (i : Nat) (H2 : Hp) (Z2 : Addr → Prop), Sub Z H0 H2 → (∀ a, Z2 a → Z a ∨ H0 a = none) →
  (∀ d, l[i]? = some d → J.go i H2 ∧ ∀ x H3, J.yld i H2 x H3 → Same H2 H3 ∧ Rep G Z2 H3 d x) ∧ (l.length ≤ i → J.stop i H2)
def WalkW (G : Gc) (Z : Addr → Prop) (H0 : Hp) (J : It) (l : List D) : Prop := ∀ (i : Nat) (H2 : Hp) (Z2 : Addr → Prop), Same H0 H2 → (∀ a, Z2 a → Z a ∨ H0 a = none) →
  (∀ d, l[i]? = some d → J.go i H2 ∧ ∀ x H3, J.yld i H2 x H3 → Same H2 H3 ∧ Rep G Z2 H3 d x) ∧ (l.length ≤ i → J.stop i H2)
theorem WalkS.w {G : Gc} {Z : Addr → Prop} {H0 : Hp} {J : It} {l : List D} (h : WalkS G Z H0 J l) : WalkW G Z H0 J l := fun i H2 Z2 s z => h i H2 Z2 (Same.sub s) z
def IPostS (Y : Cy) (O : Addr → Prop) (σ : L2.St) (H : Hp) (Q : It → Hp → Prop) : R (List D) → Prop
  | .ok l => ∀ J H', Same H H' → WalkS Y.G (Zo Y.Ze O) H' J l → Q J H'
  | .ex e => ∀ c od H', Same H H' → ExRep Y.G (Zo Y.Ze O) H' e c od → Y.E c od σ H'
  | .no => False
def IPostW (Y : Cy) (O : Addr → Prop) (σ : L2.St) (H : Hp) (Q : It → Hp → Prop) : R (List D) → Prop
  | .ok l => ∀ J H', Same H H' → WalkW Y.G (Zo Y.Ze O) H' J l → Q J H'
  | .ex e => ∀ c od H', Same H H' → ExRep Y.G (Zo Y.Ze O) H' e c od → Y.E c od σ H'
  | .no => False
def tDI (Y : Cy) (f : DI) : TI := fun σ H Q => ∃ O ρ, SR Y O ρ σ H ∧ IPostS Y O σ H Q (f ρ)
def tDIw (Y : Cy) (f : DI) : TI := fun σ H Q => ∃ O ρ, SR Y O ρ σ H ∧ IPostW Y O σ H Q (f ρ)
def PDI (X : Cx) (Y : Cy) (tg iter : Expr) (f : DI) : Prop := Lk X Y → PI X tg iter (tDI Y f)
def PDIw (X : Cx) (Y : Cy) (tg iter : Expr) (f : DI) : Prop := Lk X Y → PI X tg iter (tDIw Y f)
theorem impPI {X : Cx} {tg e : Expr} {t t' : TI} (h : PI X tg e t) (i : ∀ σ H Q, t' σ H Q → t σ H Q) : PI X tg e t' := ⟨fun pins s σ H Q I q => h.run pins s σ H Q I (i σ H Q q)⟩
theorem orPI {X : Cx} {tg e : Expr} {t u : TI} (h : PI X tg e t) (k : PI X tg e u) : PI X tg e (fun σ H Q => t σ H Q ∨ u σ H Q) := ⟨fun pins s σ H Q I q => q.elim (h.run pins s σ H Q I) (k.run pins s σ H Q I)⟩
theorem PDI.w {X : Cx} {Y : Cy} {tg e : Expr} {f : DI} (h : PDI X Y tg e f) : PDIw X Y tg e f := fun k => impPI (h k) fun σ H Q ⟨O, ρ, s, q⟩ => ⟨O, ρ, s, by
  cases e : f ρ with
  | ok l => rw [e] at q; exact fun J H' s w => q J H' s w.w
  | ex x => rw [e] at q; exact q
  | no => rw [e] at q; exact q⟩
section
variable {X : Cx} {Y : Cy} {tg e a b : Expr} {fa fb : DE} {pos p p2 : Pos}
theorem walkS_itl {G : Gc} {Z : Addr → Prop} {H : Hp} {p : Addr} {l : List D} {vs : List V} (hz : ¬ Z p) (hp : H p = some (.lst vs)) (r : RepL G Z H l vs) : WalkS G Z H (Itl G.K p) l := fun i H2 Z2 s z => by
  have hp2 := s p _ hz hp
  refine ⟨fun d hd => ?_, fun hl => ⟨vs, SqL.of hp2, by rw [← r.length]; exact hl⟩⟩
  obtain ⟨v, hv, rv⟩ := (r.mono s z).get hd
  refine ⟨⟨vs, v, SqL.of hp2, hv⟩, fun x H3 y => ?_⟩
  obtain ⟨rfl, y⟩ := y
  have := y vs (SqL.of hp2)
  rw [hv] at this
  cases this
  exact ⟨Same.refl _, rv⟩
theorem walkW_itl {G : Gc} {Z : Addr → Prop} {H : Hp} {p : Addr} {l : List D} {vs : List V} (hp : H p = some (.lst vs)) (r : RepL G Z H l vs) : WalkW G Z H (Itl G.K p) l := fun i H2 Z2 s z => by
  have hp2 := s p _ hp
  refine ⟨fun d hd => ?_, fun hl => ⟨vs, SqL.of hp2, by rw [← r.length]; exact hl⟩⟩
  obtain ⟨v, hv, rv⟩ := (r.mono (Same.sub s) z).get hd
  refine ⟨⟨vs, v, SqL.of hp2, hv⟩, fun x H3 y => ?_⟩
  obtain ⟨rfl, y⟩ := y
  have := y vs (SqL.of hp2)
  rw [hv] at this
  cases this
  exact ⟨Same.refl _, rv⟩
theorem walkS_itt {G : Gc} {Z : Addr → Prop} {H : Hp} {p : Addr} {l : List D} (r : Rep G Z H (.tup l) (.ref p)) : WalkS G Z H (Itt G.K p) l := fun i H2 Z2 s z => by
  obtain ⟨a, vs, e, hp, r⟩ := rep_tup (Rep.mono s z r)
  cases e
  refine ⟨fun d hd => ?_, fun hl => ⟨vs, hp, by rw [← r.length]; exact hl⟩⟩
  obtain ⟨v, hv, rv⟩ := r.get hd
  refine ⟨⟨vs, v, hp, hv⟩, fun x H3 y => ?_⟩
  obtain ⟨rfl, y⟩ := y
  have := y vs hp
  rw [hv] at this
  cases this
  exact ⟨Same.refl _, rv⟩
theorem walkS_str {G : Gc} {Z : Addr → Prop} {H : Hp} {x : Str} : WalkS G Z H (Its x) (x.cps.toList.map fun c => .str ⟨#[c]⟩) := fun i H2 Z2 s z => by
  refine ⟨fun d hd => ?_, fun hl => ?_⟩
  · rw [List.getElem?_map] at hd
    obtain ⟨c, hc, rfl⟩ := Option.map_eq_some_iff.mp hd
    have hc' : x.cps[i]? = some c := by rw [← Array.getElem?_toList]; exact hc
    refine ⟨(Array.getElem?_eq_some_iff.mp hc').1, fun y H3 yl => ?_⟩
    obtain ⟨rfl, c', e, rfl⟩ := yl
    rw [hc'] at e
    cases e
    exact ⟨Same.refl _, rfl⟩
  · rw [List.length_map, Array.length_toList] at hl
    exact hl
theorem walkS_rng {G : Gc} {Z : Addr → Prop} {H : Hp} {lo : Int} {n : Nat} {l : List D} (hl : l = (List.range n).map fun i => .int (lo + Int.ofNat i)) : WalkS G Z H (Itr lo n) l := fun i H2 Z2 s z => by
  subst hl
  refine ⟨fun d hd => ?_, fun h => by rw [List.length_map, List.length_range] at h; exact h⟩
  rw [List.getElem?_map] at hd
  obtain ⟨c, hc, rfl⟩ := Option.map_eq_some_iff.mp hd
  have hi : i < n := by
    have := (List.getElem?_eq_some_iff.mp hc).1
    rwa [List.length_range] at this
  rw [List.getElem?_range hi] at hc
  cases hc
  refine ⟨hi, fun y H3 yl => ?_⟩
  obtain ⟨rfl, rfl⟩ := yl
  exact ⟨Same.refl _, rfl⟩
theorem exp_iter {α : Type} {O : Addr → Prop} {ρ : DEnv} {σ : L2.St} {H : Hp} {Q : It → Hp → Prop} {k : D → R (List D)} {R : VK} (s : SR Y O ρ σ H) (h : IPostS Y O σ H Q ((fa ρ).bind k)) (hq : ∀ d, fa ρ = .ok d → IPostS Y O σ H Q (k d) → ∀ v H1, Same H H1 → Rep Y.G (Zo Y.Ze O) H1 d v → R v H1) : tD Y fa σ H R := by
  refine ⟨O, ρ, s, ?_⟩
  cases ea : fa ρ with
  | no => rw [ea] at h; exact h
  | ex e => rw [ea] at h; exact h
  | ok d => rw [ea] at h; exact fun v H1 s1 rv => hq d ea h v H1 s1 rv
/-- for x in a, a a list, a tuple, a text -/
theorem di_of (ha : PD X Y a fa) : PDI X Y tg a (iOf fa) := fun k => by
  refine impPI (orPI (pi_list (ha k)) (orPI (pi_tup (ha k)) (pi_str (ha k)))) fun σ H Q h => ?_
  obtain ⟨O, ρ, s, q⟩ := h
  have ht : ∀ {R : VK}, (∀ d, fa ρ = .ok d → IPostS Y O σ H Q (Tw.R.of (iterD d)) → ∀ v H1, Same H H1 → Rep Y.G (Zo Y.Ze O) H1 d v → R v H1) → tD Y fa σ H R := fun h => exp_iter (α := Unit) s q h
  unfold iOf at q
  cases ea : fa ρ with
  | no => rw [ea] at q; exact q.elim
  | ex e => rw [ea] at q; exact .inl ⟨O, ρ, s, by rw [ea]; exact q⟩
  | ok d =>
    rw [ea] at q
    simp only [R.bind_ok] at q
    have one : ∀ {R : VK}, (∀ v H1, Same H H1 → Rep Y.G (Zo Y.Ze O) H1 d v → R v H1) → tD Y fa σ H R := fun h => ⟨O, ρ, s, by rw [ea]; exact h⟩
    cases d with
    | lst l =>
      refine .inl (one fun v H1 s1 rv => ?_)
      obtain ⟨p, vs, rfl, n, hp, r⟩ := rv
      refine ⟨p, rfl, ⟨vs, SqL.of hp⟩, ?_⟩
      rw [k.K]
      exact q _ H1 s1 (walkS_itl n hp r)
    | tup l =>
      refine .inr (.inl (one fun v H1 s1 rv => ?_))
      have rv' := rv
      obtain ⟨p, vs, rfl, hp, r⟩ := rep_tup rv
      rw [k.K]
      exact ⟨p, rfl, ⟨vs, hp⟩, q _ H1 s1 (walkS_itt rv')⟩
    | str x =>
      refine .inr (.inr (one fun v H1 s1 rv => ⟨x, rv, q _ H1 s1 walkS_str⟩))
    | _ => exact q.elim
theorem di_range (hg : Gl X "range") (hm : X.mg "range" = none) (ha : PD X Y a fa) (hs : starEach [a] X.env = [(false, eval a X.env)] := by rfl) (hs2 : starEach (a :: []) X.env = (false, eval a X.env) :: starEach [] X.env := by rfl) : PDI X Y tg (.Call (.Name "range" p) [a] [] pos) (iRange fa) := fun k => by
  refine impPI (pi_range1 hg hm (pa_cons (ha k) pa_nil hs2) hs) fun σ H Q ⟨O, ρ, s, q⟩ => ?_
  refine ⟨O, ρ, s, ?_⟩
  unfold iRange rngR at q
  cases ea : fa ρ with
  | no => rw [ea] at q; exact q
  | ex e => rw [ea] at q; exact q
  | ok d =>
    rw [ea] at q
    simp only [R.bind_ok] at q
    intro v H1 s1 rv
    cases d with
    | int n =>
      obtain rfl : v = .int n := rv
      simp only at q
      split at q
      · rename_i hn
        exact ⟨n, rfl, (show _ ∧ _ from hn).1, (show _ ∧ _ from hn).2, q _ H1 s1 (walkS_rng (by unfold rangeD; simp))⟩
      · exact q.elim
    | _ => exact q.elim
/-- all slots but those of is stand -/
def OffS (is : List Nat) (σ σ' : L2.St) : Prop := σ'.length = σ.length ∧ ∀ j, j ∉ is → σ'[j]? = σ[j]?
def GPost (Y : Cy) (is : List Nat) (O : Addr → Prop) (ρ0 : DEnv) (σ : L2.St) (H : Hp) (Q : L2.St → Hp → Prop) : Tw.R DEnv → Prop
  | .ok ρ => ∀ O' σ', Stp O H O' H → SR Y O' ρ σ' H → OffS is σ σ' → ((∀ i ∈ is, ¬ isOwn ρ0 i) → ∀ a, O a → O' a) → Q σ' H
  | _ => False
def tDG (Y : Cy) (is : List Nat) (g : DG) : TG := fun v σ H Q => ∃ O ρ d, SR Y O ρ σ H ∧ Rep Y.G (Zo Y.Ze O) H d v ∧ GPost Y is O ρ σ H Q (g d ρ)
def PDG (X : Cx) (Y : Cy) (is : List Nat) (tg : Expr) (g : DG) : Prop := Lk X Y → PG X tg (tDG Y is g)
theorem OffS.set {i : Nat} {σ : L2.St} {v : V} : OffS [i] σ (σ.set i (some v)) := ⟨List.length_set, fun j hj => List.getElem?_set_ne fun e => hj (by rw [e]; exact List.mem_cons_self)⟩
theorem OffS.mono {is js : List Nat} {σ σ' : L2.St} (h : OffS is σ σ') (k : ∀ i ∈ is, i ∈ js) : OffS js σ σ' := ⟨h.1, fun j hj => h.2 j fun z => hj (k j z)⟩
theorem OffS.trans {is : List Nat} {σ σ' σ2 : L2.St} (h : OffS is σ σ') (k : OffS is σ' σ2) : OffS is σ σ2 := ⟨k.1.trans h.1, fun j hj => (k.2 j hj).trans (h.2 j hj)⟩
theorem impPG {X : Cx} {tg : Expr} {t t' : TG} (h : PG X tg t) (i : ∀ v σ H Q, t' v σ H Q → t v σ H Q) : PG X tg t' := ⟨fun pins s σ H v u Q I r q => h.run pins s σ H v u Q I r (i v σ H Q q)⟩
theorem dg_name {i : Nat} {x : Str} (hi : X.N[i]? = some x) (hn : i < Y.n) (hx : Loc X.env.scope x) (hf : X.fn x = true ∨ X.env.scope.names.lookup x = some .local := by first | exact .inl rfl | exact .inr rfl | assumption) : PDG X Y [i] (.Name x pos) (gVar i) := fun k => impPG (pg_name k.nd hi hx hf) fun v σ H Q ⟨O, ρ, d, s, r, q⟩ => by
  unfold gVar at q
  cases e : setV i d ρ with
  | no => rw [e] at q; exact q.elim
  | ex x => rw [e] at q; exact q.elim
  | ok ρ' =>
    rw [e] at q
    obtain ⟨O', st, s', _, ho⟩ := s.setv e hn r
    exact q O' _ st s' OffS.set fun h => ho (h i List.mem_cons_self)
theorem drop_cons {α : Type} {l : List α} {i : Nat} (h : i < l.length) : ∃ d, l[i]? = some d ∧ l.drop i = d :: l.drop (i + 1) := by
  refine ⟨l[i], List.getElem?_eq_getElem h, ?_⟩
  exact List.drop_eq_getElem_cons h
theorem ds_for {iter : Expr} {body : List Stmt} {fi : DI} {g : DG} {F : DS} {cl is : List Nat} (hi : PDI X Y tg iter fi) (hg : PDG X Y is tg g) (hb : PDSs X Y body F)
    (hs : ∀ x, foldedSetIterable iter X.env x = pure x := by intro _; rfl) (hca : Y.ca = true := by rfl) : PDS X Y (.For tg iter body [] pos) (sFor fi g cl F) := fun k => impPS (ps_for k.po (k.calm hca) (hi k) (hg k) (hb k) hs) fun N σ H ⟨O, ρ, s, q⟩ => by
  refine ⟨O, ρ, s, ?_⟩
  unfold sFor at q
  cases ea : fi ρ with
  | no => rw [ea] at q; exact q
  | ex e => rw [ea] at q; exact fun c od H1 s1 xr => q O σ H1 c od (Stp.same s1) (s.same s1) xr
  | ok l =>
    rw [ea] at q
    simp only [R.st_ok] at q
    intro J H1 s1 w
    obtain ⟨O0, st0, s0⟩ := clrD_SR cl (s.same s1)
    refine ⟨fun i m σ' H' => m = l.length - i ∧ i ≤ l.length ∧ ∃ O' ρ', Stp O H1 O' H' ∧ SR Y O' ρ' σ' H' ∧ SPost Y O' H' N (forL g cl F (l.drop i) ρ'), ⟨_, rfl, Nat.zero_le _, O0, _, st0, s0, SPost.fwd ((Stp.same s1).trans st0) q⟩, ?_⟩
    rintro i m σ' H' ⟨rfl, hi, O', ρ', st', s', q'⟩
    have wz : ∀ a, Zo Y.Ze O' a → Zo Y.Ze O a ∨ H1 a = none := fun a z => z.elim (fun z => .inl (.inl z)) fun z => (st'.2 a z).elim (fun z => .inl (.inr z)) .inr
    have ww := w i H' (Zo Y.Ze O') (fun a o n e => st'.1 a o (fun z => n (.inr z)) e) wz
    by_cases hlt : i < l.length
    · obtain ⟨d, hd, e⟩ := drop_cons hlt
      obtain ⟨go, yl⟩ := ww.1 d hd
      rw [e] at q'
      refine .inr ⟨go, fun σ2 H2 => i + 1 ≤ l.length ∧ ∃ O2 ρ2, Stp O H1 O2 H2 ∧ SR Y O2 ρ2 σ2 H2 ∧ SPost Y O2 H2 N (forL g cl F (l.drop (i + 1)) ρ2), fun σ2 H2 h => ⟨l.length - (i + 1), by omega, rfl, h.1, h.2⟩, fun x H3 y => ?_⟩
      obtain ⟨s3, r3⟩ := yl x H3 y
      refine ⟨O', ρ', d, s'.same s3, r3, ?_⟩
      simp only [forL] at q'
      cases eg : g d ρ' with
      | no => rw [eg] at q'; exact q'.elim
      | ex e => rw [eg] at q'; exact q'.elim
      | ok ρ3 =>
        rw [eg] at q'
        simp only [R.bind_ok] at q'
        intro O4 σ4 st4 s4 _ _
        refine ⟨O4, ρ3, s4, ?_⟩
        have stA := st'.trans ((Stp.same s3).trans st4)
        cases eF : F ρ3 with
        | no => rw [eF] at q'; exact q'.elim
        | ex e => rw [eF] at q'; exact q'.elim
        | ok o =>
          rw [eF] at q'
          cases o with
          | nx ρ5 =>
            intro O5 σ5 H5 st5 s5
            obtain ⟨O6, st6, s6⟩ := clrD_SR cl s5
            exact ⟨hlt, O6, _, stA.trans (st5.trans st6), s6, SPost.fwd ((Stp.same s3).trans (st4.trans (st5.trans st6))) q'⟩
          | ct ρ5 =>
            intro O5 σ5 H5 st5 s5
            obtain ⟨O6, st6, s6⟩ := clrD_SR cl s5
            exact ⟨hlt, O6, _, stA.trans (st5.trans st6), s6, SPost.fwd ((Stp.same s3).trans (st4.trans (st5.trans st6))) q'⟩
          | bk ρ5 => exact fun O5 σ5 H5 st5 s5 => q' O5 σ5 H5 ((Stp.same s3).trans (st4.trans st5)) s5
          | rt d5 ρ5 => exact fun O5 σ5 H5 v st5 s5 => q' O5 σ5 H5 v ((Stp.same s3).trans (st4.trans st5)) s5
          | xx e5 ρ5 => exact fun O5 σ5 H5 c od st5 s5 => q' O5 σ5 H5 c od ((Stp.same s3).trans (st4.trans st5)) s5
    · have e : i = l.length := by omega
      subst e
      rw [List.drop_length] at q'
      exact .inl ⟨ww.2 (Nat.le_refl _), q' O' σ' H' Stp.refl s'⟩
end
end Tw

set_option maxHeartbeats 2000000
namespace Tw
open PySem PySem.Spec L2
open PyProof.Rows hiding St
section
variable {Y : Cy} {O : Addr → Prop} {ρ : DEnv} {σ : L2.St} {H H' : Hp}
/-- the reading in a comprehension's block: no exception, more that may not be leaned on -/
def Cy.blk (Y : Cy) (Ze : Addr → Prop) : Cy := { Y with Ze := Ze, E := fun _ _ _ _ => False }
theorem SR.blk (s : SR Y O ρ σ H) (sm : Same H H') {p : Addr} (h0 : H p = none) (h1 : H' p ≠ none) : SR (Y.blk fun a => Y.Ze a ∨ a = p) O ρ σ H' := by
  obtain ⟨α, s⟩ := s
  have zz : ∀ a, Zo (fun a => Y.Ze a ∨ a = p) O a → Zo Y.Ze O a ∨ H a = none := fun a z => by
    rcases z with (z | rfl) | z
    · exact .inl (.inl z)
    · exact .inr h0
    · exact .inl (.inr z)
  refine ⟨α, s.len, fun i d e => ?_, fun i d e => ?_, fun i d e => ?_, fun i d e => ?_, s.inj, s.oeq, fun a z => ?_, fun a z q => s.ot a z (sm.free q), s.ptr.m (fun _ _ r => r.mono (Same.sub sm) zz) rfl⟩
  · obtain ⟨v, e1, r⟩ := s.val i d e
    exact ⟨v, e1, r.mono (Same.sub sm) zz⟩
  · obtain ⟨e1, n, r⟩ := s.own i d e
    refine ⟨e1, fun z => ?_, r.mono sm zz⟩
    rcases z with z | z
    · exact n z
    · exact s.ot (α i) ((s.oeq _).mpr ⟨i, ⟨d, .inl e⟩, rfl⟩) (by rw [z]; exact h0)
  · obtain ⟨e1, n, c, ks, l, dx, vs, e2, e3, e4, r⟩ := s.slf i d e
    exact ⟨e1, n, c, ks, l, dx, vs, e2, sm _ _ e3, e4, RepGL.mono sm zz (fun j d' h => ⟨rfl, d', h⟩) r⟩
  · obtain ⟨r, k⟩ := s.gho i d e
    exact ⟨r.mono sm zz, k⟩
  · rcases z with z | rfl
    · exact fun q => s.zt a z (sm.free q)
    · exact h1
theorem okW_at {vs : List Nat} {v : Nat} (h : okW vs ρ = true) (hv : v ∈ vs) : ρ[v]? = some none ∨ ∃ d, ρ[v]? = some (some (.val d)) := by
  have := List.all_eq_true.mp h v hv
  split at this
  · rename_i e; exact .inl e
  · rename_i d e; exact .inr ⟨d, e⟩
  · cases this
theorem wipD_get {vs : List Nat} {j : Nat} : (wipD vs ρ)[j]? = if j ∈ vs then (if j < ρ.length then some none else none) else ρ[j]? := by
  induction vs with
  | nil => simp [wipD]
  | cons v vs ih =>
    have e : wipD (v :: vs) ρ = (wipD vs ρ).set v none := rfl
    have hl : (wipD vs ρ).length = ρ.length := by
      clear ih e
      induction vs with
      | nil => rfl
      | cons w vs ih => show ((wipD vs ρ).set w none).length = _; rw [List.length_set, ih]
    rw [e]
    by_cases hj : v = j
    · subst hj
      rw [if_pos List.mem_cons_self]
      by_cases hv : v < ρ.length
      · rw [if_pos hv, List.getElem?_set_self (by rw [hl]; exact hv)]
      · rw [if_neg hv, List.getElem?_eq_none]
        rw [List.length_set, hl]
        omega
    · rw [List.getElem?_set_ne hj, ih]
      by_cases h : j ∈ vs
      · rw [if_pos h, if_pos (List.mem_cons_of_mem _ h)]
      · rw [if_neg h, if_neg fun z => (List.mem_cons.mp z).elim (fun z => hj z.symm) h]
theorem wipD_len {vs : List Nat} : (wipD vs ρ).length = ρ.length := by
  induction vs with
  | nil => rfl
  | cons w vs ih => show ((wipD vs ρ).set w none).length = _; rw [List.length_set, ih]
/-- the block's names forgotten -/
theorem SR.wipe {vs : List Nat} (s : SR Y O ρ σ H) (h : okW vs ρ = true) : SR Y O (wipD vs ρ) (wipe σ vs) H := by
  obtain ⟨α, s⟩ := s
  have back : ∀ {j : Nat} {x : Slot}, (wipD vs ρ)[j]? = some (some x) → j ∉ vs ∧ ρ[j]? = some (some x) := fun {j x} e => by
    rw [wipD_get] at e
    split at e
    · split at e <;> cases e
    · rename_i n; exact ⟨n, e⟩
  have fwd : ∀ {j : Nat}, isOwn ρ j → j ∉ vs := fun {j} h' n => by
    obtain ⟨d, h'⟩ := h'
    rcases okW_at h n with e | ⟨d', e⟩ <;> rcases h' with k | k | k <;> rw [e] at k <;> cases k
  have own : ∀ j, isOwn (wipD vs ρ) j ↔ isOwn ρ j := fun j => by
    refine ⟨fun ⟨d, k⟩ => ?_, fun k => ?_⟩
    · rcases k with k | k | k
      · exact ⟨d, .inl (back k).2⟩
      · exact ⟨d, .inr (.inl (back k).2)⟩
      · exact ⟨d, .inr (.inr (back k).2)⟩
    · have n := fwd k
      obtain ⟨d, k⟩ := k
      refine ⟨d, ?_⟩
      rw [wipD_get, if_neg n]
      exact k
  refine ⟨α, ⟨(wipe_length σ vs).trans s.len.1, by rw [wipD_len]; exact s.len.2⟩, fun i d e => ?_, fun i d e => ?_, fun i d e => ?_, fun i d e => ?_, fun i j hi hj e => s.inj i j ((own i).mp hi) ((own j).mp hj) e, fun a => ?_, s.zt, s.ot, s.ptr.to (fun _ _ r => r) fun i x e _ => by obtain ⟨n, e⟩ := back e; exact ⟨e, wipe_out n⟩⟩
  · obtain ⟨n, e⟩ := back e
    obtain ⟨v, e1, r⟩ := s.val i d e
    exact ⟨v, by rw [wipe_out n]; exact e1, r⟩
  · obtain ⟨n, e⟩ := back e
    obtain ⟨e1, r⟩ := s.own i d e
    exact ⟨by rw [wipe_out n]; exact e1, r⟩
  · obtain ⟨n, e⟩ := back e
    obtain ⟨e1, n', c, ks, l, dx, us, e2, e3, e4, r⟩ := s.slf i d e
    refine ⟨by rw [wipe_out n]; exact e1, n', c, ks, l, dx, us, e2, e3, e4, RepGL.weak (fun _ z => z) (fun j d' hj => ⟨d', ?_⟩) r⟩
    rw [wipD_get, if_neg (fwd ⟨d', .inr (.inr hj)⟩)]
    exact hj
  · obtain ⟨n, e⟩ := back e
    exact s.gho i d e
  · rw [s.oeq]
    exact ⟨fun ⟨j, k, e⟩ => ⟨j, (own j).mpr k, e⟩, fun ⟨j, k, e⟩ => ⟨j, (own j).mp k, e⟩⟩
theorem wipe_get {vs : List Nat} {j : Nat} : (L2.wipe σ vs)[j]? = if j ∈ vs then (if j < σ.length then some none else none) else σ[j]? := by
  induction vs with
  | nil => simp [L2.wipe]
  | cons v vs ih =>
    have e : L2.wipe σ (v :: vs) = (L2.wipe σ vs).set v none := rfl
    rw [e]
    by_cases hj : v = j
    · subst hj
      rw [if_pos List.mem_cons_self]
      by_cases hv : v < σ.length
      · rw [if_pos hv, List.getElem?_set_self (by rw [wipe_length]; exact hv)]
      · rw [if_neg hv, List.getElem?_eq_none]
        rw [List.length_set, wipe_length]
        omega
    · rw [List.getElem?_set_ne hj, ih]
      by_cases h : j ∈ vs
      · rw [if_pos h, if_pos (List.mem_cons_of_mem _ h)]
      · rw [if_neg h, if_neg fun z => (List.mem_cons.mp z).elim (fun z => hj z.symm) h]
theorem OffS.wipe {vs is : List Nat} {σ2 : L2.St} (h : OffS is (L2.wipe σ vs) σ2) (k : ∀ i ∈ is, i ∈ vs) : L2.wipe σ2 vs = L2.wipe σ vs := by
  refine List.ext_getElem? fun j => ?_
  have hl : σ2.length = σ.length := h.1.trans (wipe_length σ vs)
  rw [wipe_get, wipe_get, hl]
  by_cases hj : j ∈ vs
  · rw [if_pos hj, if_pos hj]
  · rw [if_neg hj, if_neg hj, h.2 j fun z => hj (k j z), wipe_out hj]
theorem wip_noown {vs : List Nat} {i : Nat} (hw : okW vs ρ = true) (hi : i ∈ vs) : ¬ isOwn (wipD vs ρ) i := fun ⟨d, k⟩ => by
  simp only [wipD_get, if_pos hi] at k
  rcases k with k | k | k <;> split at k <;> cases k
theorem compL_ex {g : DG} {c : DT} {e : DE} {ρ : DEnv} {x : Ex} : ∀ {l : List D}, compL g c e ρ l = .ex x → False
  | [], h => by cases h
  | d :: l, h => by
    simp only [compL] at h
    split at h
    · split at h
      · split at h
        · split at h <;> cases h
        · cases h
      · exact compL_ex h
      · cases h
    · cases h
/-- readings with more that may not be leaned on -/
def tX (Y : Cy) (f : DE) : TE := fun σ H Q => ∃ Ze, tD (Y.blk Ze) f σ H Q
def tXT (Y : Cy) (f : DT) : TT := fun σ H Q => ∃ Ze, tDT (Y.blk Ze) f σ H Q
def tXG (Y : Cy) (is : List Nat) (g : DG) : TG := fun v σ H Q => ∃ Ze, tDG (Y.blk Ze) is g v σ H Q
def tXI (Y : Cy) (f : DI) : TI := fun σ H Q => ∃ Ze, tDIw (Y.blk Ze) f σ H Q
end
section
variable {X : Cx} {Y : Cy} {O : Addr → Prop} {ρ : DEnv} {σ : L2.St} {H : Hp}
theorem Lk.blk (k : Lk X Y) (s : Shared) (H : Hp) (scope : Scope) (cenv : Env) (fp : List Addr) (Ze : Addr → Prop) : Lk (X.blk s H scope cenv fp) (Y.blk Ze) :=
  ⟨k.K, k.ln, takes0, k.rm, k.hd, k.nd, PassesOwn.never, k.calm⟩
/-- the loop of a comprehension -/
theorem comp_core {vs is : List Nat} {g : DG} {c : DT} {e : DE} {J : It} {l ys : List D} {H0 : Hp} {Qd : Addr → Hp → Prop} (s : SR Y O ρ σ H0) (hw : okW vs ρ = true) (hl : l.length ≤ lineD) (hk : ∀ i ∈ is, i ∈ vs) (w : WalkW Y.G (Zo Y.Ze O) H0 J l) (hc : compL g c e (wipD vs ρ) l = .ok ys)
    (hq : ∀ D H' us, Same H0 H' → H0 D = none → H' D = some (.lst us) → RepL Y.G (fun a => Zo Y.Ze O a ∨ a = D) H' ys us → Qd D H') :
    ∀ D, H0 D = none → ∃ W : Nat → Nat → Hp → Prop, (∃ m, W 0 m (upd H0 D (.lst []))) ∧ ∀ i m H, W i m H →
      (J.stop i H ∧ Qd D H) ∨ (J.go i H ∧ ∃ Nx : Hp → Prop, (∀ H', Nx H' → ∃ m', m' < m ∧ W (i + 1) m' H') ∧ ∀ x H', J.yld i H x H' → tXG Y is g x (L2.wipe σ vs) H' fun σ2 H2 => L2.wipe σ2 vs = L2.wipe σ vs ∧ tXT Y c σ2 H2 fun b H3 =>
        if b = true then tX Y e σ2 H3 fun y H4 => ∃ acc, H4 D = some (.lst acc) ∧ acc.length < sizeLine ∧ Nx (upd H4 D (.lst (acc ++ [y]))) else Nx H3) := by
  intro D hD
  let P : Nat → Hp → Prop := fun i H' => Same H0 H' ∧ ∃ acc us, H' D = some (.lst us) ∧ RepL Y.G (fun a => Zo Y.Ze O a ∨ a = D) H' acc us ∧ acc.length ≤ i ∧ ∃ rest, compL g c e (wipD vs ρ) (l.drop i) = .ok rest ∧ ys = acc ++ rest
  refine ⟨fun i m H' => m = l.length - i ∧ i ≤ l.length ∧ P i H', ⟨_, rfl, Nat.zero_le _, same_new hD, [], [], upd_same, rfl, Nat.zero_le _, ys, by rw [List.drop_zero]; exact hc, rfl⟩, ?_⟩
  rintro i m H' ⟨rfl, hi, sm, acc, us, hu, ru, ha, rest, hr, hy⟩
  have zz : ∀ a, (fun a => Zo Y.Ze O a ∨ a = D) a → Zo Y.Ze O a ∨ H0 a = none := fun a z => z.elim .inl fun e => .inr (by rw [e]; exact hD)
  have ww := w i H' (fun a => Zo Y.Ze O a ∨ a = D) sm zz
  have hne : H' D ≠ none := by rw [hu]; exact fun z => by cases z
  by_cases hlt : i < l.length
  · obtain ⟨d, hd, e1⟩ := drop_cons hlt
    obtain ⟨go, yl⟩ := ww.1 d hd
    rw [e1] at hr
    refine .inr ⟨go, fun H2 => i + 1 ≤ l.length ∧ P (i + 1) H2, fun H2 h => ⟨l.length - (i + 1), by omega, rfl, h.1, h.2⟩, fun x H3 y => ?_⟩
    obtain ⟨s3, r3⟩ := yl x H3 y
    have sb : SR (Y.blk fun a => Y.Ze a ∨ a = D) O (wipD vs ρ) (L2.wipe σ vs) H3 := (s.wipe hw).blk (sm.trans s3) hD fun q => hne (s3.free q)
    have zo : ∀ a, Zo (fun a => Y.Ze a ∨ a = D) O a ↔ Zo Y.Ze O a ∨ a = D := fun a => by
      constructor
      · rintro ((z | z) | z)
        · exact .inl (.inl z)
        · exact .inr z
        · exact .inl (.inr z)
      · rintro ((z | z) | z)
        · exact .inl (.inl z)
        · exact .inr z
        · exact .inl (.inr z)
    refine ⟨fun a => Y.Ze a ∨ a = D, O, wipD vs ρ, d, sb, r3.weak fun a z => (zo a).mp z, ?_⟩
    simp only [compL] at hr
    cases eg : g d (wipD vs ρ) with
    | no => rw [eg] at hr; cases hr
    | ex e => rw [eg] at hr; cases hr
    | ok ρ1 =>
      rw [eg] at hr
      simp only at hr
      intro O1 σ1 st1 s1 off ow
      refine ⟨off.wipe hk, fun a => Y.Ze a ∨ a = D, O1, ρ1, s1, ?_⟩
      have sub1 : ∀ a, O1 a → O a ∨ H3 a = none := st1.2
      cases ec : c ρ1 with
      | no => rw [ec] at hr; cases hr
      | ex e => rw [ec] at hr; cases hr
      | ok b =>
        rw [ec] at hr
        intro H4 s4
        cases b with
        | false =>
          rw [if_neg Bool.false_ne_true]
          have s04 := sm.trans (s3.trans s4)
          exact ⟨hlt, s04, acc, us, (s3.trans s4) _ _ hu, ru.same (s3.trans s4), Nat.le_succ_of_le ha, rest, hr, hy⟩
        | true =>
          rw [if_pos rfl]
          simp only at hr
          refine ⟨fun a => Y.Ze a ∨ a = D, O1, ρ1, s1.same s4, ?_⟩
          cases ee : e ρ1 with
          | no => rw [ee] at hr; cases hr
          | ex x => rw [ee] at hr; cases hr
          | ok d2 =>
            rw [ee] at hr
            simp only at hr
            cases er : compL g c e (wipD vs ρ) (l.drop (i + 1)) with
            | no => rw [er] at hr; cases hr
            | ex x => rw [er] at hr; cases hr
            | ok rest2 =>
              rw [er] at hr
              cases hr
              intro v H5 s5 rv
              have s35 := s3.trans (s4.trans s5)
              have hu5 : H5 D = some (.lst us) := s35 _ _ hu
              have ll := ru.length
              refine ⟨us, hu5, ?_, hlt, fun b o q => ?_, acc ++ [d2], us ++ [v], upd_same, ?_, by rw [List.length_append, List.length_singleton]; omega, rest2, er, by rw [hy, List.append_assoc]; rfl⟩
              · rw [lineD_eq]; omega
              · rw [upd_ne (ne_of_none q hD)]
                exact s35 b o (sm b o q)
              · have sb : Sub (fun a => Zo Y.Ze O a ∨ a = D) H5 (upd H5 D (.lst (us ++ [v]))) := fun b o n q => by
                  rw [upd_ne fun e => n (.inr e)]
                  exact q
                refine RepL.mono sb (fun a z => .inl z) ((ru.same s35).append (RepL.one ?_))
                refine Rep.mono (Same.sub (Same.refl H5)) (fun a z => ?_) rv
                rcases z with (z | z) | z
                · exact .inl (.inl (.inl z))
                · exact .inl (.inr (ow (fun i hi' => wip_noown hw (hk i hi')) a z))
                · exact .inl (.inl (.inr z))
  · have e1 : i = l.length := by omega
    subst e1
    rw [List.drop_length] at hr
    cases hr
    rw [List.append_nil] at hy
    subst hy
    exact .inl ⟨ww.2 (Nat.le_refl _), hq D H' us sm hD hu ru⟩
def PDTs (X : Cx) (Y : Cy) (ifs : List Expr) (f : DT) : Prop := Lk X Y → PTs X ifs (tDT Y f)
theorem impPTs {X : Cx} {e : List Expr} {t t' : TT} (h : PTs X e t) (i : ∀ σ H Q, t' σ H Q → t σ H Q) : PTs X e t' := ⟨fun pins s σ H Q I q => h.run pins s σ H Q I (i σ H Q q)⟩
theorem dts_nil : PDTs X Y [] tYesD := fun k => impPTs pts_nil fun σ H Q ⟨O, ρ, s, q⟩ => q H (Same.refl H)
theorem dts_one {c : Expr} {f : DT} (h : PDT X Y c f) : PDTs X Y [c] f := fun k => pts_one (h k)
theorem PE.xall {e : Expr} {f : DE} (h : ∀ Ze, PE X e (tD (Y.blk Ze) f)) : PE X e (tX Y f) := ⟨fun pins s σ H Q I ⟨Ze, q⟩ => (h Ze).run pins s σ H Q I q⟩
theorem PTs.xall {e : List Expr} {f : DT} (h : ∀ Ze, PTs X e (tDT (Y.blk Ze) f)) : PTs X e (tXT Y f) := ⟨fun pins s σ H Q I ⟨Ze, q⟩ => (h Ze).run pins s σ H Q I q⟩
theorem PG.xall {e : Expr} {is : List Nat} {f : DG} (h : ∀ Ze, PG X e (tDG (Y.blk Ze) is f)) : PG X e (tXG Y is f) := ⟨fun pins s σ H v u Q I r ⟨Ze, q⟩ => (h Ze).run pins s σ H v u Q I r q⟩
theorem PI.xall {tg e : Expr} {f : DI} (h : ∀ Ze, PI X tg e (tDIw (Y.blk Ze) f)) : PI X tg e (tXI Y f) := ⟨fun pins s σ H Q I ⟨Ze, q⟩ => (h Ze).run pins s σ H Q I q⟩
variable {elt tg iter : Expr} {ifs : List Expr} {scope : Scope} {own : List (Str × Nat)} {pos : Pos} {fi : DI} {g : DG} {c : DT} {e : DE} {is : List Nat}
/-- a comprehension's reading, from what is wanted of its list -/
theorem comp_imp {Qv : VK} (hk : ∀ i ∈ is, i ∈ own.map (·.2)) (σ : L2.St) (H : Hp) (O : Addr → Prop) (ρ : DEnv) (s : SR Y O ρ σ H) (he : ∀ e', fi ρ = .ex e' → ∀ c od H', Same H H' → ExRep Y.G (Zo Y.Ze O) H' e' c od → Y.E c od σ H')
    (h : ∃ l ys, (fi ρ = .ok l ∧ l.length ≤ lineD ∧ okW (own.map (·.2)) ρ = true ∧ compL g c e (wipD (own.map (·.2)) ρ) l = .ok ys ∧ ∀ D H' us, Same H H' → H D = none → H' D = some (.lst us) → RepL Y.G (fun a => Zo Y.Ze O a ∨ a = D) H' ys us → Qv (.ref D) H') ∨ ∃ e', fi ρ = .ex e') :
    tLc (tDIw Y fi) (tXG Y is g) (tXT Y c) (tX Y e) (own.map (·.2)) σ H Qv := by
  refine ⟨O, ρ, s, ?_⟩
  obtain ⟨l, ys, h | ⟨e', h⟩⟩ := h
  · obtain ⟨ea, hl, hw, hc, hq⟩ := h
    rw [ea]
    intro J H1 s1 w D hD
    exact comp_core (Qd := fun D H' => Qv (.ref D) H') (s.same s1) hw hl hk w hc (fun D H' us s2 h0 h1 r => hq D H' us (s1.trans s2) (s1.free h0) h1 r) D hD
  · rw [h]
    exact he e' h
theorem pd_comp (hi : PDIw X Y tg iter fi) (ok : BlkOk X.N X.env.scope scope own) (hk : ∀ i ∈ is, i ∈ own.map (·.2))
    (hg : ∀ (Ze : Addr → Prop) (s : Shared) (H : Hp) (C : Addr) (cl : List (Str × Addr)) (fp : List Addr), PDG (X.blk s H scope (compEnvC scope cl C X.env) fp) (Y.blk Ze) is tg g)
    (ht : ∀ (Ze : Addr → Prop) (s : Shared) (H : Hp) (C : Addr) (cl : List (Str × Addr)) (fp : List Addr), PDTs (X.blk s H scope (compEnvC scope cl C X.env) fp) (Y.blk Ze) ifs c)
    (he : ∀ (Ze : Addr → Prop) (s : Shared) (H : Hp) (C : Addr) (cl : List (Str × Addr)) (fp : List Addr), PD (X.blk s H scope (compEnvC scope cl C X.env) fp) (Y.blk Ze) elt e)
    (hs : ∀ x, foldedSetIterable iter X.env x = pure x := by intro _; rfl) (hca : Y.ca = true := by rfl) : PD X Y (.ListComp elt [⟨tg, iter, ifs, 0⟩] scope pos) (eComp fi (own.map (·.2)) g c e) := fun k => by
  refine impPE (pe_lc (k.calm hca) k.nd (hi k) ok (fun s H C cl fp => PG.xall fun Ze => hg Ze s H C cl fp (k.blk s H scope _ fp Ze)) (fun s H C cl fp => PTs.xall fun Ze => ht Ze s H C cl fp (k.blk s H scope _ fp Ze)) (fun s H C cl fp => PE.xall fun Ze => he Ze s H C cl fp (k.blk s H scope _ fp Ze)) hs) fun σ H Q ⟨O, ρ, s, q⟩ => ?_
  unfold eComp at q
  refine comp_imp hk σ H O ρ s (fun e' ee => by rw [ee] at q; exact q) ?_
  cases ea : fi ρ with
  | no => rw [ea] at q; exact q.elim
  | ex e' => exact ⟨[], [], .inr ⟨e', rfl⟩⟩
  | ok l =>
    rw [ea] at q
    simp only [R.bind_ok] at q
    split at q
    · rename_i hl
      cases ec : compL g c e (wipD (own.map (·.2)) ρ) l with
      | no => rw [ec] at q; exact q.elim
      | ex e' => 
        rw [ec] at q
        exact (compL_ex ec).elim
      | ok ys =>
        rw [ec] at q
        refine ⟨l, ys, .inl ⟨rfl, hl.1, hl.2, ec, fun D H' us s1 h0 h1 r => q _ H' s1 ⟨D, us, rfl, fun z => s.zt D z h0, h1, r.weak fun a z => .inl z⟩⟩⟩
    · exact q.elim
theorem ds_comp {i : Nat} {y : Str} {py spos : Pos} (hy : X.N[i]? = some y) (hn : i < Y.n) (hyl : X.env.scope.names.lookup y = some .local) (hsw : swapsWith (.ListComp elt [⟨tg, iter, ifs, 0⟩] scope pos) (some (.Name y py)) spos.line X.env = pure true)
    (hi : PDIw X Y tg iter fi) (ok : BlkOk X.N X.env.scope scope own) (hk : ∀ i ∈ is, i ∈ own.map (·.2))
    (hg : ∀ (Ze : Addr → Prop) (s : Shared) (H : Hp) (C : Addr) (cl : List (Str × Addr)) (fp : List Addr), PDG (X.blk s H scope (compEnvC scope cl C X.env) fp) (Y.blk Ze) is tg g)
    (ht : ∀ (Ze : Addr → Prop) (s : Shared) (H : Hp) (C : Addr) (cl : List (Str × Addr)) (fp : List Addr), PDTs (X.blk s H scope (compEnvC scope cl C X.env) fp) (Y.blk Ze) ifs c)
    (he : ∀ (Ze : Addr → Prop) (s : Shared) (H : Hp) (C : Addr) (cl : List (Str × Addr)) (fp : List Addr), PD (X.blk s H scope (compEnvC scope cl C X.env) fp) (Y.blk Ze) elt e)
    (hs : ∀ x, foldedSetIterable iter X.env x = pure x := by intro _; rfl) (hca : Y.ca = true := by rfl) : PDS X Y (.Assign [.Name y py] (.ListComp elt [⟨tg, iter, ifs, 0⟩] scope pos) spos) (sSet i (eComp fi (own.map (·.2)) g c e)) := fun k => by
  refine impPS (ps_setLc (k.calm hca) k.nd hy hyl hsw (hi k) ok (fun s H C cl fp => PG.xall fun Ze => hg Ze s H C cl fp (k.blk s H scope _ fp Ze)) (fun s H C cl fp => PTs.xall fun Ze => ht Ze s H C cl fp (k.blk s H scope _ fp Ze)) (fun s H C cl fp => PE.xall fun Ze => he Ze s H C cl fp (k.blk s H scope _ fp Ze)) hs) fun N σ H ⟨O, ρ, s, q⟩ => ?_
  unfold sSet eComp at q
  refine comp_imp hk σ H O ρ s (fun e' ee => by rw [ee] at q; exact fun c od H' s' xr => q O σ H' c od (Stp.same s') (s.same s') xr) ?_
  cases ea : fi ρ with
  | no => rw [ea] at q; exact q.elim
  | ex e' => exact ⟨[], [], .inr ⟨e', rfl⟩⟩
  | ok l =>
    rw [ea] at q
    simp only [R.bind_ok] at q
    split at q
    · rename_i hl
      cases ec : compL g c e (wipD (own.map (·.2)) ρ) l with
      | no => rw [ec] at q; exact q.elim
      | ex e' => exact (compL_ex ec).elim
      | ok ys =>
        rw [ec] at q
        refine ⟨l, ys, .inl ⟨rfl, hl.1, hl.2, ec, fun D H' us s1 h0 h1 r => ?_⟩⟩
        simp only [R.bind_ok, R.st_ok] at q
        cases es : setV i (.lst ys) ρ with
        | no => rw [es] at q; exact q.elim
        | ex e => exact (setV_no es).elim
        | ok ρ' =>
          rw [es] at q
          obtain ⟨O', st, s', _⟩ := (s.same s1).setv es hn (v := .ref D) ⟨D, us, rfl, fun z => s.zt D z h0, h1, r.weak fun a z => .inl z⟩
          exact q O' _ H' ((Stp.same s1).trans st) s'
    · exact q.elim
end
end Tw

set_option maxHeartbeats 2000000
namespace Tw
open PySem PySem.Spec L2
open PyProof.Rows hiding St
def vRep (x : Str) (y : V) : List Str → List V → List V
  | k :: ks, v :: vs => (if k = x then y else v) :: vRep x y ks vs
  | _, _ => []
def vPut (x : Str) (y : V) (ks : List Str) (vs : List V) : List V := if x ∈ ks then vRep x y ks vs else vs ++ [y]
theorem any_sKeys {x : Str} : ∀ {ks : List Str} {vs : List V}, ks.length = vs.length → ((sKeys ks vs).any fun kv => decide (kv.1 = (Sum.inr x : Key))) = decide (x ∈ ks)
  | [], vs, e => by cases vs <;> simp_all [sKeys]
  | k :: ks, [], e => by simp at e
  | k :: ks, v :: vs, e => by
    have ih := any_sKeys (x := x) (ks := ks) (vs := vs) (by simpa using e)
    simp only [sKeys, List.any_cons, ih]
    by_cases q : k = x
    · subst q; simp
    · have q' : ¬ (Sum.inr k : Key) = Sum.inr x := fun z => q (Sum.inr.inj z)
      have q2 : ¬ x = k := fun z => q z.symm
      simp [q', q2, q]
theorem map_sKeys {x : Str} {y : V} : ∀ {ks : List Str} {vs : List V}, ks.length = vs.length → ((sKeys ks vs).map fun kv => if kv.1 = (Sum.inr x : Key) then (kv.1, y) else kv) = sKeys ks (vRep x y ks vs)
  | [], vs, e => by cases vs <;> simp_all [sKeys]
  | k :: ks, [], e => by simp at e
  | k :: ks, v :: vs, e => by
    have ih := map_sKeys (x := x) (y := y) (ks := ks) (vs := vs) (by simpa using e)
    simp only [sKeys, vRep, List.map_cons, ih]
    by_cases q : k = x
    · subst q; simp
    · have q' : ¬ (Sum.inr k : Key) = Sum.inr x := fun z => q (Sum.inr.inj z)
      simp [q', q]
theorem sKeys_snoc {x : Str} {y : V} : ∀ {ks : List Str} {vs : List V}, ks.length = vs.length → sKeys ks vs ++ [(Sum.inr x, y)] = sKeys (ks ++ [x]) (vs ++ [y])
  | [], vs, e => by cases vs <;> simp_all [sKeys]
  | k :: ks, [], e => by simp at e
  | k :: ks, v :: vs, e => by
    have ih := sKeys_snoc (x := x) (y := y) (ks := ks) (vs := vs) (by simpa using e)
    simp only [sKeys, List.cons_append, ih]
theorem putK_s {x : Str} {y : V} {ks : List Str} {vs : List V} (e : ks.length = vs.length) : putK (sKeys ks vs) (Sum.inr x : Key) y = sKeys (dPutK x ks) (vPut x y ks vs) := by
  unfold putK dPutK vPut
  rw [any_sKeys e]
  by_cases q : x ∈ ks
  · rw [if_pos q, if_pos q, if_pos (decide_eq_true q), map_sKeys e]
  · rw [if_neg q, if_neg q, if_neg (by rw [decide_eq_false q]; exact Bool.false_ne_true), sKeys_snoc e]
theorem vRep_len {x : Str} {y : V} : ∀ {ks : List Str} {vs : List V}, ks.length = vs.length → (vRep x y ks vs).length = ks.length
  | [], vs, e => by cases vs <;> simp_all [vRep]
  | k :: ks, [], e => by simp at e
  | k :: ks, v :: vs, e => by simp [vRep, vRep_len (x := x) (y := y) (ks := ks) (vs := vs) (by simpa using e)]
theorem vPut_len {x : Str} {y : V} {ks : List Str} {vs : List V} (e : ks.length = vs.length) : (dPutK x ks).length = (vPut x y ks vs).length := by
  unfold dPutK vPut
  by_cases q : x ∈ ks
  · rw [if_pos q, if_pos q, vRep_len e]
  · rw [if_neg q, if_neg q, List.length_append, List.length_append, e]; rfl
theorem rep_vRep {G : Gc} {Z : Addr → Prop} {H : Hp} {x : Str} {d : D} {y : V} (ry : Rep G Z H d y) : ∀ {ks : List Str} {l : List D} {vs : List V}, ks.length = vs.length → RepL G Z H l vs → RepL G Z H (repDv x d ks l) (vRep x y ks vs)
  | [], l, vs, e, r => by cases l <;> cases vs <;> simp_all [repDv, vRep, RepL]
  | k :: ks, l, [], e, r => by simp at e
  | k :: ks, [], v :: vs, e, r => by cases (show v :: vs = [] from r)
  | k :: ks, d' :: l, v :: vs, e, r => by
    obtain ⟨v', w, e', r1, r2⟩ := r
    cases e'
    simp only [repDv, vRep]
    refine ⟨_, _, rfl, ?_, rep_vRep ry (by simpa using e) r2⟩
    by_cases q : k = x
    · rw [if_pos q, if_pos q]; exact ry
    · rw [if_neg q, if_neg q]; exact r1
theorem rep_vPut {G : Gc} {Z : Addr → Prop} {H : Hp} {x : Str} {d : D} {y : V} (ry : Rep G Z H d y) {ks : List Str} {l : List D} {vs : List V} (e : ks.length = vs.length) (r : RepL G Z H l vs) : RepL G Z H (dPutV x d ks l) (vPut x y ks vs) := by
  unfold dPutV vPut
  by_cases q : x ∈ ks
  · rw [if_pos q, if_pos q]; exact rep_vRep ry e r
  · rw [if_neg q, if_neg q]; exact r.append (RepL.one ry)
section
variable {X : Cx} {Y : Cy} {O : Addr → Prop} {ρ : DEnv} {σ : L2.St} {H : Hp} {a b e o : Expr} {fa fb : DE} {pos p p2 apos cpos pos' : Pos} {x : Str} {i : Nat}
theorem Stp.own {O : Addr → Prop} {H : Hp} {p : Addr} {o : HO} (h : O p) : Stp O H O (upd H p o) := ⟨fun a u n e => by rw [upd_ne fun q => n (by rw [q]; exact h)]; exact e, fun a z => .inl z⟩
/-- the receiver x is the def's own container -/
theorem own_at {d : D} (s : SR Y O ρ σ H) (hi : ρ[i]? = some (some (.own d))) : ∃ p, σ[i]? = some (some (.ref p)) ∧ O p ∧ RepW Y.G (Zo Y.Ze O) H d (.ref p) := by
  obtain ⟨α, s⟩ := s
  obtain ⟨e, _, r⟩ := s.own i d hi
  exact ⟨_, e, (s.oeq _).mpr ⟨i, ⟨d, .inl hi⟩, rfl⟩, r⟩
/-- the write of the container at i -/
theorem SR.write {d d' : D} {p : Addr} {o : HO} (s : SR Y O ρ σ H) (hi : ρ[i]? = some (some (.own d))) (hp : σ[i]? = some (some (.ref p))) (r : RepW Y.G (Zo Y.Ze O) (upd H p o) d' (.ref p)) : SR Y O (ρ.set i (some (.own d'))) σ (upd H p o) := by
  obtain ⟨p', e, _, _, s'⟩ := s.mut (d' := d') (o := o) hi fun q eq _ _ _ => by
    rw [hp] at eq; cases eq; exact r
  rw [hp] at e
  cases e
  exact s'
theorem sub_upd {p : Addr} {o : HO} (h : O p) : Sub (Zo Y.Ze O) H (upd H p o) := fun a u n e => by
  rw [upd_ne fun q => n (.inr (by rw [q]; exact h))]
  exact e
/-- x.append(e) -/
theorem ds_append {i : Nat} (hN : X.N[i]? = some x) (ha : PD X Y a fa) (hv : Vis X.env.scope x := by first | exact Or.inl rfl | exact Or.inr (Or.inl rfl) | exact Or.inr (Or.inr rfl)) (hd : (x == ("__debug__" : Str)) = false := by decide) (hcd : (x == ("__classdict__" : Str)) = false := by decide)
    (hbase : attributeBase (.Name x p) "append" X.env (eval (.Name x p) X.env) = eval (.Name x p) X.env := by rfl)
    (hfew : ((backTo cpos (starEach (a :: []) X.env)).all (fun x => !x.1) && (backToKw cpos (keywordEach [] X.env)).all (fun x => x.1.isSome)
      && decide ((a :: []).length + ([] : List Keyword).length + (if ([] : List Keyword).isEmpty then 0 else 1) < 30)) = true := by rfl)
    (hline : (apos.endLine == cpos.line) = true := by rfl) (hs : starEach (a :: []) X.env = (false, eval a X.env) :: starEach [] X.env := by rfl) (hplain : (backTo cpos (starEach [] X.env)).any (·.1) = false := by rfl)
    (hsw : swapsWith (.Call (.Attribute (.Name x p) "append" apos) [a] [] cpos) none pos.line X.env = pure false := by rfl) :
    PDS X Y (.Expr (.Call (.Attribute (.Name x p) "append" apos) [a] [] cpos) pos) (sApp i fa) := fun k => by
  refine impPS (ps_expr (pe_bm PySem.F.plainAttrs_list PySem.F.slot_list_append PySem.F.type_list_append mt_append (pe_var hN hv hd hcd) (pa_cons (ha k) pa_nil hs) hbase hfew hline hs hplain) hsw) fun N σ H ⟨O, ρ, s, q⟩ => ?_
  unfold sApp at q
  split at q
  · rename_i l hi
    obtain ⟨pl, hp, Op, rl⟩ := own_at s hi
    obtain ⟨_, vs, e, hl, rv⟩ := rl
    cases e
    refine ⟨.ref pl, hp, .inl ⟨rfl, vs, SqL.of hl⟩, exp_then s q fun d ea q v H1 s1 r1 => ?_⟩
    split at q
    · rename_i hlen
      have hl1 := s1 _ _ hl
      refine ⟨pl, vs, v, rfl, rfl, hl1, by rw [lineD_eq, ← rv.length]; exact hlen, ?_⟩
      have s' := (s.same s1).write (d' := .lst (l ++ [d])) (o := .lst (vs ++ [v])) hi hp ⟨pl, _, rfl, upd_same, RepL.mono (sub_upd Op) (fun _ z => .inl z) ((rv.same s1).append (RepL.one r1))⟩
      exact q O σ _ ((Stp.same s1).trans (Stp.own Op)) s'
    · exact q.elim
  · exact q.elim
/-- x[k] = e, x the def's own dict -/
theorem ds_dput {i : Nat} (hN : X.N[i]? = some x) (hb : PDw X Y b fb) (ha : PD X Y a fa) (hv : Vis X.env.scope x := by first | exact Or.inl rfl | exact Or.inr (Or.inl rfl) | exact Or.inr (Or.inr rfl)) (hd : (x == ("__debug__" : Str)) = false := by decide) (hcd : (x == ("__classdict__" : Str)) = false := by decide)
    (hs : swapsWith a (some (.Subscript (.Name x p) b pos')) pos.line X.env = pure false := by rfl) : PDS X Y (.Assign [.Subscript (.Name x p) b pos'] a pos) (sPutD i fb fa) := fun k => by
  refine impPS (ps_dput (hu_L k.rm) (pe_var hN hv hd hcd) (hb k) (ha k) hs) fun N σ H ⟨O, ρ, s, q⟩ => ?_
  unfold sPutD at q
  refine exp_then s q fun d ea q v H1 s1 r1 => ?_
  split at q
  · rename_i ks l hi
    obtain ⟨pl, hp, Op, rl⟩ := own_at (s.same s1) hi
    obtain ⟨_, vs, e, hl, hlen, rv⟩ := rl
    cases e
    refine ⟨.ref pl, hp, expw_then (s.same s1) (SPost.fwd (Stp.same s1) q) fun dk ek q2 u H2 s2 r2 => ?_⟩
    cases dk with
    | str z =>
      simp only at q2
      split at q2
      · rename_i hz
        obtain rfl : u = .str z := r2
        have hl2 := s2 _ _ hl
        refine ⟨pl, _, rfl, DPut.k (k := Sum.inr z) hl2 (by rw [len_sKeys hlen, lineD_eq]; exact hz), ?_⟩
        have s' := ((s.same s1).same s2).write (d' := .dct (dPutK z ks) (dPutV z d ks l)) (o := .dK (putK (sKeys ks vs) (Sum.inr z) v)) hi hp
          ⟨pl, vPut z v ks vs, rfl, by rw [upd_same, putK_s hlen], vPut_len hlen, RepL.mono (sub_upd Op) (fun _ z => .inl z) (rep_vPut (r1.same s2) hlen (rv.same s2))⟩
        exact q2 O σ _ ((Stp.same s2).trans (Stp.own Op)) s'
      · exact q2.elim
    | _ => exact q2.elim
  · exact q.elim
end
end Tw

set_option maxHeartbeats 2000000
namespace Tw
open PySem PySem.Spec L2
open PyProof.Rows hiding St
def putVv (x : Str) (y : V) : List Str → List V → List V
  | k :: ks, v :: vs => if x = k then y :: vs else v :: putVv x y ks vs
  | _, _ => [y]
theorem putF_k {f : Str} {y : V} : ∀ {ks : List Str} {vs : List V}, ks.length = vs.length → L2.putF f y (fKeys ks vs) = fKeys (putDk f ks) (putVv f y ks vs)
  | [], vs, e => by cases vs <;> simp_all [fKeys, putDk, putVv, L2.putF]
  | k :: ks, [], e => by simp at e
  | k :: ks, v :: vs, e => by
    have ih := putF_k (f := f) (y := y) (ks := ks) (vs := vs) (by simpa using e)
    by_cases q : f = k
    · subst q; simp [fKeys, putDk, putVv, L2.putF]
    · have q' : ¬ k = f := fun z => q z.symm
      simp [fKeys, putDk, putVv, L2.putF, q, q', ih]
theorem putVv_len {f : Str} {y : V} : ∀ {ks : List Str} {vs : List V}, ks.length = vs.length → (putDk f ks).length = (putVv f y ks vs).length
  | [], vs, e => by cases vs <;> simp_all [putDk, putVv]
  | k :: ks, [], e => by simp at e
  | k :: ks, v :: vs, e => by
    have ih := putVv_len (f := f) (y := y) (ks := ks) (vs := vs) (by simpa using e)
    by_cases q : f = k
    · subst q; simp [putDk, putVv]; simpa using e
    · simp [putDk, putVv, q, ih]
theorem putDk_mem {f g : Str} : ∀ {ks : List Str}, g ∈ putDk f ks → g = f ∨ g ∈ ks
  | [], h => .inl (by simpa [putDk] using h)
  | k :: ks, h => by
    unfold putDk at h
    by_cases q : f = k
    · rw [if_pos q] at h; exact .inr h
    · rw [if_neg q] at h
      rcases List.mem_cons.mp h with e | h
      · exact .inr (by rw [e]; exact List.mem_cons_self)
      · rcases putDk_mem h with e | h
        · exact .inl e
        · exact .inr (List.mem_cons_of_mem _ h)
theorem repGL_put {G : Gc} {Z : Addr → Prop} {α : Nat → Addr} {ρ : DEnv} {H : Hp} {f : Str} {d : D} {y : V} (ry : RepG G Z α ρ H d y) : ∀ {ks : List Str} {l : List D} {vs : List V}, ks.length = vs.length → RepGL G Z α ρ H l vs → RepGL G Z α ρ H (putDv f d ks l) (putVv f y ks vs)
  | [], l, vs, e, r => by
    obtain rfl : vs = [] := by cases vs <;> simp_all
    unfold putDv putVv
    exact ⟨y, [], rfl, ry, rfl⟩
  | k :: ks, l, [], e, r => by simp at e
  | k :: ks, [], v :: vs, e, r => by cases (show v :: vs = [] from r)
  | k :: ks, d' :: l, v :: vs, e, r => by
    obtain ⟨v', w, e', r1, r2⟩ := r
    cases e'
    by_cases q : f = k
    · subst q
      simp only [putDv, putVv, if_pos]
      exact ⟨y, _, rfl, ry, r2⟩
    · simp only [putDv, putVv, if_neg q]
      exact ⟨v, _, rfl, r1, repGL_put ry (by simpa using e) r2⟩
theorem RepG.of {G : Gc} {Z : Addr → Prop} {α : Nat → Addr} {ρ : DEnv} {H : Hp} {d : D} {v : V} (h : Rep G Z H d v) : RepG G Z α ρ H d v := by
  cases d with
  | gst j => exact h.elim
  | _ => exact h
theorem isOwn_setSlf {ρ : DEnv} {i j : Nat} {d d' : D} (hi : ρ[i]? = some (some (.slf d))) : isOwn (ρ.set i (some (.slf d'))) j ↔ isOwn ρ j := by
  have hl : i < ρ.length := (List.getElem?_eq_some_iff.mp hi).1
  refine ⟨fun h => ?_, fun h => ?_⟩
  · rcases isOwn_set h with ⟨e, _⟩ | ⟨_, k⟩
    · rw [e]; exact ⟨d, .inr (.inl hi)⟩
    · exact k
  · by_cases hj : j = i
    · subst hj
      exact ⟨d', .inr (.inl (List.getElem?_set_self hl))⟩
    · obtain ⟨d'', h⟩ := h
      refine ⟨d'', ?_⟩
      rw [List.getElem?_set_ne (Ne.symm hj)]
      exact h
/-- the object under construction is changed in its place -/
theorem SR.mutS {Y : Cy} {O : Addr → Prop} {ρ : DEnv} {σ : L2.St} {H : Hp} {i : Nat} {d d' : D} (s : SR Y O ρ σ H) (hi : ρ[i]? = some (some (.slf d))) {f : Str} {dv : D} {y : V} (ry : Rep Y.G (Zo Y.Ze O) H dv y) (hp : putF f dv d = some d') :
    ∃ c ks l dx vs, d = .obj c ks l ∧ d' = .obj c (putDk f ks) (putDv f dv ks l) ∧ f ∈ fldOf c ∧ Y.G.has c ∧ ks.length < 999 ∧ ks.length = vs.length ∧ σ[i]? = some (some (.ref Y.sa)) ∧ O Y.sa ∧ H Y.sa = some (.ins (Y.G.cm c) dx (fKeys ks vs)) ∧
      SR Y O (ρ.set i (some (.slf d'))) σ (upd H Y.sa (.ins (Y.G.cm c) dx (L2.putF f y (fKeys ks vs)))) := by
  obtain ⟨α, s⟩ := s
  have hl : i < ρ.length := (List.getElem?_eq_some_iff.mp hi).1
  obtain ⟨ei, ea, c, ks, l, dx, vs, rfl, hH, ⟨hlen, hc, hf⟩, rl⟩ := s.slf i d hi
  have oi : isOwn ρ i := ⟨_, .inr (.inl hi)⟩
  have Oi : O (α i) := (s.oeq _).mpr ⟨i, oi, rfl⟩
  unfold putF at hp
  simp only at hp
  split at hp
  rotate_left
  · cases hp
  rename_i hpk
  cases hp
  rw [ea] at ei Oi hH
  have sub : ∀ j, isOwn (ρ.set i (some (.slf (.obj c (putDk f ks) (putDv f dv ks l))))) j ↔ isOwn ρ j := fun j => isOwn_setSlf hi
  have sb : Sub (Zo Y.Ze O) H (upd H Y.sa (.ins (Y.G.cm c) dx (L2.putF f y (fKeys ks vs)))) := fun a u n e => by
    rw [upd_ne fun q => n (.inr (by rw [q]; exact Oi))]
    exact e
  have an : ∀ j, isOwn ρ j → j ≠ i → α j ≠ Y.sa := fun j h n e => n (s.inj j i h oi (e.trans ea.symm))
  have rw' : ∀ {d : D} {p : Addr}, p ≠ Y.sa → RepW Y.G (Zo Y.Ze O) H d (.ref p) → RepW Y.G (Zo Y.Ze O) (upd H Y.sa (.ins (Y.G.cm c) dx (L2.putF f y (fKeys ks vs)))) d (.ref p) := fun {d p} hp r => by
    cases d with
    | lst l => obtain ⟨a, vs, e, t, r⟩ := r; cases e; exact ⟨_, vs, rfl, by rw [upd_ne hp]; exact t, r.mono sb fun _ q => .inl q⟩
    | dct ks l => obtain ⟨a, vs, e, t, k, r⟩ := r; cases e; exact ⟨_, vs, rfl, by rw [upd_ne hp]; exact t, k, r.mono sb fun _ q => .inl q⟩
    | obj c ks l => obtain ⟨a, dx, vs, e, t, k, r⟩ := r; cases e; exact ⟨_, dx, vs, rfl, by rw [upd_ne hp]; exact t, k, r.mono sb fun _ q => .inl q⟩
    | _ => exact Rep.mono sb (fun _ q => .inl q) r
  have gl : ∀ {ds : List D} {vs' : List V}, RepGL Y.G (Zo Y.Ze O) α ρ H ds vs' → RepGL Y.G (Zo Y.Ze O) α (ρ.set i (some (.slf (.obj c (putDk f ks) (putDv f dv ks l))))) (upd H Y.sa (.ins (Y.G.cm c) dx (L2.putF f y (fKeys ks vs)))) ds vs' := by
    intro ds
    induction ds with
    | nil => intro vs h; exact h
    | cons d ds ih =>
      intro vs h
      obtain ⟨v, r, e, h1, h2⟩ := h
      refine ⟨v, r, e, ?_, ih h2⟩
      cases d with
      | gst j =>
        obtain ⟨e, d'', kk⟩ := h1
        have hki : j ≠ i := fun e => by subst e; rw [hi] at kk; cases kk
        exact ⟨e, d'', by rw [List.getElem?_set_ne (Ne.symm hki)]; exact kk⟩
      | _ => exact Rep.mono sb (fun _ q => .inl q) h1
  refine ⟨c, ks, l, dx, vs, rfl, rfl, hpk.2, hc, hpk.1, hlen, ei, Oi, hH, α, by rw [List.length_set]; exact s.len, fun j d'' e => ?_, fun j d'' e => ?_, fun j d'' e => ?_, fun j d'' e => ?_, fun j k hj hk e => s.inj j k ((sub j).mp hj) ((sub k).mp hk) e, fun a => ?_, fun a z q => ?_, fun a z q => ?_, ptrA s.ptr rfl fun _ _ r => r.mono sb fun _ q => .inl q⟩
  · rcases set_at e with ⟨_, q⟩ | ⟨_, q⟩
    · cases q
    · obtain ⟨v, e1, r⟩ := s.val j d'' q
      exact ⟨v, e1, r.mono sb fun _ q => .inl q⟩
  · rcases set_at e with ⟨_, q⟩ | ⟨hj, q⟩
    · cases q
    · obtain ⟨e1, n, r⟩ := s.own j d'' q
      exact ⟨e1, n, rw' (an j ⟨d'', .inl q⟩ hj) r⟩
  · rcases set_at e with ⟨rfl, q⟩ | ⟨hj, q⟩
    · cases q
      refine ⟨by rw [ei, ea], ea, c, _, _, dx, putVv f y ks vs, rfl, ?_, ⟨putVv_len hlen, hc, fun g hg => (putDk_mem hg).elim (fun e => by rw [e]; exact hpk.2) (hf g)⟩, repGL_put (RepG.of (ry.mono sb fun _ q => .inl q)) hlen (gl rl)⟩
      rw [ea, upd_same, putF_k hlen]
    · obtain ⟨e1, n, c, ks, l, dx, vs, e2, e3, e4, r⟩ := s.slf j d'' q
      exact absurd n (an j ⟨d'', .inr (.inl q)⟩ hj)
  · rcases set_at e with ⟨_, q⟩ | ⟨hj, q⟩
    · cases q
    · obtain ⟨r, k⟩ := s.gho j d'' q
      exact ⟨rw' (an j ⟨d'', .inr (.inr q)⟩ hj) r, k⟩
  · rw [s.oeq]
    exact ⟨fun ⟨j, k, e⟩ => ⟨j, (sub j).mpr k, e⟩, fun ⟨j, k, e⟩ => ⟨j, (sub j).mp k, e⟩⟩
  · by_cases h : a = Y.sa
    · subst h; rw [upd_same] at q; cases q
    · rw [upd_ne h] at q; exact s.zt a z q
  · by_cases h : a = Y.sa
    · subst h; rw [upd_same] at q; cases q
    · rw [upd_ne h] at q; exact s.ot a z q
theorem fKeys_len : ∀ {ks : List Str} {vs : List V}, ks.length = vs.length → (fKeys ks vs).length = ks.length
  | [], vs, e => by cases vs <;> simp_all [fKeys]
  | k :: ks, [], e => by simp at e
  | k :: ks, v :: vs, e => by simp [fKeys, fKeys_len (ks := ks) (vs := vs) (by simpa using e)]
section
variable {X : Cx} {Y : Cy} {a b e o tg : Expr} {fa fb : DE} {pos pos' p p2 : Pos} {x f : Str} {i : Nat}
/-- self.f = e -/
theorem ds_fld (hN : X.N[i]? = some x) (ha : PD X Y a fa) (hv : Vis X.env.scope x := by first | exact Or.inl rfl | exact Or.inr (Or.inl rfl) | exact Or.inr (Or.inr rfl)) (hd : (x == ("__debug__" : Str)) = false := by decide) (hcd : (x == ("__classdict__" : Str)) = false := by decide)
    (hs : swapsWith a (some (.Attribute (.Name x p) f pos')) pos.line X.env = pure false := by rfl) : PDS X Y (.Assign [.Attribute (.Name x p) f pos'] a pos) (sFld i f fa) := fun k => by
  refine impPS (ps_fld (pe_var hN hv hd hcd) (ha k) hs) fun N σ H ⟨O, ρ, s, q⟩ => ?_
  unfold sFld at q
  refine exp_then s q fun d ea q v H1 s1 r1 => ?_
  split at q
  · rename_i ds hi
    split at q
    · rename_i d' hp
      obtain ⟨c, ks, l, dx, vs, e1, e2, e3, e4, e5, e6, e7, e8, e9, s'⟩ := (s.same s1).mutS hi r1 hp
      refine ⟨_, e7, Y.sa, Y.G.cm c, dx, fKeys ks vs, rfl, e9, k.K ▸ Y.G.cls c e4, k.K ▸ Y.G.noat c f e4 e3, by rw [fKeys_len e6]; omega, ?_⟩
      exact q O σ _ ((Stp.same s1).trans (Stp.own e8)) s'
    · exact q.elim
  · exact q.elim
end
theorem envD_get {n : Nat} {ds : List D} {i : Nat} {x : Option Slot} (h : (envD n ds)[i]? = some x) : (∃ d, ds[i]? = some d ∧ x = some (.val d)) ∨ x = none := by
  unfold envD at h
  by_cases hi : i < ds.length
  · rw [List.getElem?_append_left (by simpa using hi), List.getElem?_map] at h
    obtain ⟨d, hd, e⟩ := Option.map_eq_some_iff.mp h
    exact .inl ⟨d, hd, e.symm⟩
  · rw [List.getElem?_append_right (by simpa using hi), List.getElem?_replicate] at h
    split at h
    · exact .inr (Option.some.inj h).symm
    · cases h
theorem envD_len {n : Nat} {ds : List D} (h : ds.length ≤ n) : (envD n ds).length = n := by
  unfold envD
  rw [List.length_append, List.length_map, List.length_replicate]
  omega
theorem start_get {N : List Str} {vs : List V} {i : Nat} {v : V} (h : vs[i]? = some v) : (start N vs)[i]? = some (some v) := by
  unfold L2.start
  rw [List.getElem?_append_left (by simpa using (List.getElem?_eq_some_iff.mp h).1), List.getElem?_map, h]
  rfl
theorem start_len {N : List Str} {vs : List V} (h : vs.length ≤ N.length) : (start N vs).length = N.length := by
  unfold L2.start
  rw [List.length_append, List.length_map, List.length_replicate]
  omega
theorem SR.start {Y : Cy} {N : List Str} {ds : List D} {vs : List V} {H : Hp} (hn : Y.n = N.length) (hl : ds.length ≤ N.length) (zt : ∀ a, Y.Ze a → H a ≠ none) (r : RepL Y.G Y.Ze H ds vs) : SR Y (fun _ => False) (envD N.length ds) (L2.start N vs) H := by
  have no : ∀ i, ¬ isOwn (envD N.length ds) i := fun i ⟨d, h⟩ => by
    rcases h with h | h | h
    all_goals
      rcases envD_get h with ⟨_, _, e⟩ | e
      · cases e
      · cases e
  have z : ∀ a, Zo Y.Ze (fun _ => False) a → Y.Ze a := fun a z => z.elim id False.elim
  refine ⟨fun _ => 0, ⟨by rw [start_len (by rw [← r.length]; exact hl), hn], by rw [envD_len hl, hn]; exact Nat.le_refl _⟩, fun i d e => ?_, fun i d e => absurd ⟨d, .inl e⟩ (no i), fun i d e => absurd ⟨d, .inr (.inl e)⟩ (no i), fun i d e => absurd ⟨d, .inr (.inr e)⟩ (no i), fun i j hi => absurd hi (no i), fun a => ⟨False.elim, fun ⟨i, h, _⟩ => no i h⟩, zt, fun a h => h.elim, PtrOk.no fun i x e hx => by
    rcases envD_get e with ⟨_, _, e⟩ | e
    · rcases hx with rfl | ⟨_, rfl⟩ <;> cases e
    · cases e⟩
  rcases envD_get e with ⟨d', hd, e⟩ | e
  · cases e
    obtain ⟨v, hv, rv⟩ := r.get hd
    exact ⟨v, start_get hv, rv.weak z⟩
  · cases e
theorem SR.startS {Y : Cy} {N : List Str} {s : D} {ds : List D} {vs : List V} {H : Hp} (hn : Y.n = N.length) (hl : ds.length + 1 ≤ N.length) (zt : ∀ a, Y.Ze a → H a ≠ none) (ob : ObjAt Y.G Y.Ze H Y.sa s) (hz : Y.Ze Y.sa) (r : RepL Y.G Y.Ze H ds vs) :
    SR Y (fun a => a = Y.sa) (some (.slf s) :: envD (N.length - 1) ds) (L2.start N (.ref Y.sa :: vs)) H := by
  have on : ∀ i, isOwn (some (.slf s) :: envD (N.length - 1) ds) i ↔ i = 0 := fun i => by
    refine ⟨fun ⟨d, h⟩ => ?_, fun e => by subst e; exact ⟨s, .inr (.inl rfl)⟩⟩
    cases i with
    | zero => rfl
    | succ i =>
      rcases h with h | h | h
      all_goals
        rcases envD_get (i := i) (by simpa using h) with ⟨_, _, e⟩ | e
        · cases e
        · cases e
  have z : ∀ a, Zo Y.Ze (fun a => a = Y.sa) a → Y.Ze a := fun a z => z.elim id fun e => by rw [e]; exact hz
  have gl : ∀ {ρ : DEnv} {l : List D} {vs : List V}, RepL Y.G Y.Ze H l vs → RepGL Y.G (Zo Y.Ze fun a => a = Y.sa) (fun _ => Y.sa) ρ H l vs := by
    intro ρ l
    induction l with
    | nil => intro vs h; exact h
    | cons d l ih =>
      intro vs h
      obtain ⟨v, w, e, h1, h2⟩ := h
      exact ⟨v, w, e, RepG.of (h1.weak z), ih h2⟩
  obtain ⟨c, ks, l, dx, us, e1, e2, e3, e4⟩ := ob
  refine ⟨fun _ => Y.sa, ⟨by rw [start_len (by rw [List.length_cons, ← r.length]; exact hl), hn], by rw [List.length_cons, envD_len (by omega), hn]; omega⟩, fun i d e => ?_, fun i d e => ?_, fun i d e => ?_, fun i d e => ?_, fun i j hi hj _ => ((on i).mp hi).trans ((on j).mp hj).symm, fun a => ⟨fun h => ⟨0, (on 0).mpr rfl, h.symm⟩, fun ⟨i, _, h⟩ => h.symm⟩, zt, fun a h => by rw [h]; exact zt _ hz, PtrOk.no fun i x e hx => by
    cases i with
    | zero => rcases hx with rfl | ⟨_, rfl⟩ <;> cases e
    | succ i =>
      rcases envD_get (i := i) (by simpa using e) with ⟨_, _, e⟩ | e
      · rcases hx with rfl | ⟨_, rfl⟩ <;> cases e
      · cases e⟩
  · cases i with
    | zero => cases e
    | succ i =>
      rcases envD_get (i := i) (by simpa using e) with ⟨d', hd, e⟩ | e
      · cases e
        obtain ⟨v, hv, rv⟩ := r.get hd
        exact ⟨v, start_get (by simpa using hv), rv.weak z⟩
      · cases e
  · exact absurd ((on i).mp ⟨d, .inl e⟩) (fun h => by subst h; cases e)
  · obtain rfl := (on i).mp ⟨d, .inr (.inl e)⟩
    cases e
    exact ⟨start_get rfl, rfl, c, ks, l, dx, us, e1, e2, e3, gl e4⟩
  · exact absurd ((on i).mp ⟨d, .inr (.inr e)⟩) (fun h => by subst h; cases e)
section
variable {P : Program} {w : World} {K : PySem.W.Frag} {mg : Str → Option Value} {base : Heap} {x qual : Str} {params : Arguments} {body : List Stmt} {scope : Scope} {dvs : List V} {kws : List (Str × V)} {f : Addr} {fd : FuncData} {N ps : List Str} {k : Nat} {G : Gc} {b : DS}
theorem ExRep.weak {G : Gc} {Z Z' : Addr → Prop} {H : Hp} {e : Ex} {c : Value} {od : Option Addr} (z : ∀ a, Z' a → Z a) (h : ExRep G Z H e c od) : ExRep G Z' H e c od := by
  obtain ⟨e1, d, us, e2, e3, e4, e5⟩ := h
  exact ⟨e1, d, us, e2, e3, e4, e5.weak z⟩
/-- the context of a def's body -/
def cyOf (G : Gc) (Ze : Addr → Prop) (sa : Addr) (E : XK) (k : Nat) (N : List Str) : Cy := ⟨G, Ze, sa, fun c d _ H => E c d H, k, N.length, true, fun _ => .non⟩
theorem lk_of {cdv : Value} {A : Around} {outer : List Env} {s : Shared} {H : Hp} {E : XK} {Ze : Addr → Prop} {sa : Addr} (hK : G.K = K) (S : FnScope N ps scope) (hr : Room k (A.deeper (envOfC qual scope s.heap.objs.size f cdv))) :
    Lk (cxOf (L2.CX P w) P w K mg base N qual scope f cdv A outer s H E) (cyOf G Ze sa E k N) where
  K := hK.symm
  ln := rfl
  tk := takes_of rfl rfl rfl rfl
  rm := Room.lo hr
  hd := fun _ => hr.hd
  nd := S.nd
  po := passes_of rfl
  calm := fun _ => rfl
theorem fn_dsp (F : FunD K x qual params body scope dvs kws f fd) (hK : G.K = K) (S : FnScope N ps scope) (hl : ps.length ≤ N.length)
    (hb : ∀ (cdv : Value) (A : Around) (outer : List Env) (s : Shared) (H : Hp) (E : XK) (Ze : Addr → Prop), PDSs (cxOf (L2.CX P w) P w K mg base N qual scope f cdv A outer s H E) (cyOf G Ze 0 E k N) body b) :
    FnOk P w K mg base (L2.CX P w) (k + 1) f fd ps (dsp G (defD N.length ps.length b)) := by
  have hlen : ∀ ds, (∀ (H : Hp) (Q : VK) (E : XK) (Ze : Addr → Prop), DPost G Ze H Q E (defD N.length ps.length b ds) → ds.length = ps.length) := fun ds H Q E Ze q => by
    unfold defD at q
    split at q
    · assumption
    · exact q.elim
  refine F.ok S (fun vs H Q E h => ?_) fun cdv A outer s H vs Q E hr h => ?_
  · obtain ⟨Ze, ds, _, r, q⟩ := h
    rw [← r.length]
    exact hlen ds H Q E Ze q
  · obtain ⟨Ze, ds, zt, r, q⟩ := h
    have hd := hlen ds H Q E Ze q
    refine ⟨_, hb cdv A outer s H E Ze (lk_of hK S hr), fun _ => False, envD N.length ds, SR.start (Y := cyOf G Ze 0 E k N) rfl (by rw [hd]; exact hl) zt r, ?_⟩
    unfold defD at q
    rw [if_pos hd] at q
    have sm : ∀ {O' : Addr → Prop} {H' : Hp}, Stp (fun _ => False) H O' H' → Same H H' := fun st a o e => st.1 a o (fun z => z) e
    have zw : ∀ {O' : Addr → Prop}, ∀ a, Ze a → Zo Ze O' a := fun a z => .inl z
    cases eb : b (envD N.length ds) with
    | no => rw [eb] at q; exact q.elim
    | ex e => rw [eb] at q; exact q.elim
    | ok o =>
      rw [eb] at q
      cases o with
      | nx ρ => exact fun O' σ' H' st s' => q .non H' (sm st) rfl
      | bk ρ => exact q.elim
      | ct ρ => exact q.elim
      | rt d ρ => exact fun O' σ' H' v st s' rv => q v H' (sm st) (Rep.weak zw rv)
      | xx e ρ => exact fun O' σ' H' c od st s' xr => q c od H' (sm st) (xr.weak zw)
theorem RepGL.plain {G : Gc} {Z : Addr → Prop} {α : Nat → Addr} {ρ : DEnv} {H : Hp} : ∀ {l : List D} {vs : List V}, noGst l = true → RepGL G Z α ρ H l vs → RepL G Z H l vs
  | [], vs, _, h => h
  | d :: l, vs, n, h => by
    obtain ⟨v, r, e, h1, h2⟩ := h
    cases d with
    | gst j => cases n
    | _ => exact ⟨v, r, e, h1, RepGL.plain n h2⟩
theorem fn_init (F : FunD K x qual params body scope dvs kws f fd) (hK : G.K = K) (S : FnScope N ps scope) (hl : ps.length ≤ N.length)
    (hb : ∀ (cdv : Value) (A : Around) (outer : List Env) (s : Shared) (H : Hp) (E : XK) (Ze : Addr → Prop) (sa : Addr), PDSs (cxOf (L2.CX P w) P w K mg base N qual scope f cdv A outer s H E) (cyOf G Ze sa E k N) body b) :
    FnOk P w K mg base (L2.CX P w) (k + 1) f fd ps (dspM G (initP N.length ps.length b)) := by
  have hlen : ∀ s ds, (∀ (H : Hp) (Q : VK) (E : XK) (Ze : Addr → Prop) (a : Addr), IPost G Ze a H Q E (initP N.length ps.length b s ds) → ds.length + 1 = ps.length) := fun s ds H Q E Ze a q => by
    unfold initP at q
    split at q
    · assumption
    · exact q.elim
  refine F.ok S (fun vs H Q E h => ?_) fun cdv A outer s H vs Q E hr h => ?_
  · obtain ⟨Ze, a, s, us, ds, rfl, _, _, _, r, q⟩ := h
    rw [List.length_cons, ← r.length]
    exact hlen s ds H Q E Ze a q
  · obtain ⟨Ze, a, so, us, ds, rfl, hz, zt, ob, r, q⟩ := h
    have hd := hlen so ds H Q E Ze a q
    refine ⟨_, hb cdv A outer s H E Ze a (lk_of hK S hr), fun b => b = a, some (.slf so) :: envD (N.length - 1) ds, SR.startS (Y := cyOf G Ze a E k N) rfl (by rw [hd]; exact hl) zt ob hz r, ?_⟩
    unfold initP at q
    rw [if_pos hd] at q
    have sm : ∀ {O' : Addr → Prop} {H' : Hp}, Stp (fun b => b = a) H O' H' → ∀ b o, b ≠ a → H b = some o → H' b = some o := fun st b o n e => st.1 b o n e
    have zw : ∀ {O' : Addr → Prop}, ∀ a, Ze a → Zo Ze O' a := fun a z => .inl z
    have fin : ∀ {O' : Addr → Prop} {σ' : L2.St} {H' : Hp} {d : D} {ρ : DEnv} {v : V}, IPost G Ze a H Q E (slfP ρ d) → Stp (fun b => b = a) H O' H' → SR (cyOf G Ze a E k N) O' ρ σ' H' → Rep G Ze H' d v → Q v H' := by
      intro O' σ' H' d ρ v q st s' rv
      unfold slfP at q
      split at q
      · rename_i c ks l tl
        split at q
        · rename_i hg
          obtain ⟨α, s'⟩ := s'
          obtain ⟨e1, e2, c', ks', l', dx, vs, e3, e4, e5, e6⟩ := s'.slf 0 (.obj c ks l) rfl
          cases e3
          rw [e2] at e4
          exact q v H' (sm st) ⟨c, ks, l, dx, vs, rfl, e4, e5, (e6.plain hg).weak zw⟩ rv
        · exact q.elim
      · exact q.elim
    cases eb : b (some (.slf so) :: envD (N.length - 1) ds) with
    | no => rw [eb] at q; exact q.elim
    | ex e => rw [eb] at q; exact q.elim
    | ok o =>
      rw [eb] at q
      cases o with
      | nx ρ => exact fun O' σ' H' st s' => fin q st s' rfl
      | bk ρ => exact q.elim
      | ct ρ => exact q.elim
      | rt d ρ => exact fun O' σ' H' v st s' rv => fin q st s' (Rep.weak zw rv)
      | xx e ρ => exact fun O' σ' H' c od st s' xr => q c od H' (sm st) (s'.zt a (.inl hz)) (xr.weak zw)
end
section
variable {X : Cx} {Y : Cy} {O : Addr → Prop} {ρ : DEnv} {σ : L2.St} {H : Hp} {a : Expr} {fa : DE}
end
end Tw

set_option maxHeartbeats 2000000
namespace Tw
open PySem PySem.Spec L2
open PyProof.Rows hiding St
abbrev FrB := PySem.W.Frag → Bool
def obsT (fb : List FrB) (fa : List He.Fa) (fn : List He5.DefA) (K : PySem.W.Frag) : He.AlD := ((fb.all fun f => f K) && ((fa.all fun f => f.ok K) && fn.all fun d => d.ok K), fn.map fun d => He5.fnA K (d.at_ K))
def valT (fn : List He5.DefA) : He.AlD := (true, fn.map He5.DefA.val)
def SaysT (fb : List FrB) (fa : List He.Fa) (fn : List He5.DefA) (K : PySem.W.Frag) : Prop := obsT fb fa fn K = valT fn
section
variable {fb : List FrB} {fa : List He.Fa} {fn : List He5.DefA} {K : PySem.W.Frag}
theorem SaysT.all3 (c : SaysT fb fa fn K) : (fb.all fun f => f K) = true ∧ (fa.all fun f => f.ok K) = true ∧ (fn.all fun d => d.ok K) = true := by
  have z : ((fb.all fun f => f K) && ((fa.all fun f => f.ok K) && fn.all fun d => d.ok K)) = true := congrArg Prod.fst c
  obtain ⟨z1, z⟩ := Bool.and_eq_true_iff.mp z
  obtain ⟨z2, z3⟩ := Bool.and_eq_true_iff.mp z
  exact ⟨z1, z2, z3⟩
theorem SaysT.own (c : SaysT fb fa fn K) (i : Nat) {f : FrB} (h : fb[i]? = some f := by rfl) : f K = true := List.all_eq_true.mp c.all3.1 f (List.mem_of_getElem? h)
theorem SaysT.fact (c : SaysT fb fa fn K) (i : Nat) {f : He.Fa} (h : fa[i]? = some f := by rfl) : f.ok K = true := List.all_eq_true.mp c.all3.2.1 f (List.mem_of_getElem? h)
theorem SaysT.def_ (c : SaysT fb fa fn K) (i : Nat) {d : He5.DefA} (h : fn[i]? = some d := by rfl) : ∃ fd, L2.FunD K d.name d.qual d.params d.body d.scope (d.dvs K) (d.kws K) (d.at_ K) fd := by
  have z : fn.map (fun d => He5.fnA K (d.at_ K)) = fn.map He5.DefA.val := congrArg Prod.snd c
  have z1 : (fn.map fun d => He5.fnA K (d.at_ K))[i]? = (fn.map He5.DefA.val)[i]? := by rw [z]
  rw [List.getElem?_map, List.getElem?_map, h] at z1
  exact He5.DefA.funD (Option.some.inj z1) (List.all_eq_true.mp c.all3.2.2 d (List.mem_of_getElem? h))
end
def cmOf (K : PySem.W.Frag) (c : String) : Addr := He.ga K (Str.ofString c)
def gAd (x : Str) (K : PySem.W.Frag) : Addr := He.ga K x
def mAd (c m : Str) (K : PySem.W.Frag) : Addr := He.ma K (He.ga K c) m
def sAd (c m : Str) (K : PySem.W.Frag) : Addr := He5.wf K (He.ga K c) "staticmethod" m
/-- a staticmethod read off its class -/
def smB (c m : Str) : FrB := fun K => decide (PySem.W.readsIn K (He.ga K c) (.type "type") = true) && (decide (PySem.W.specialIn K (.ref (He.ga K c)) "__getattribute__" = some (some (.builtin "type.__getattribute__"))) &&
  (He5.wrapB K (He.ga K c) "staticmethod" "staticmethod.__get__" m && PySem.W.keepIn K (.ref (sAd c m K))))
theorem smB_ok {K : PySem.W.Frag} {c m : Str} (h : smB c m K = true) : CFn K (He.ga K c) m (sAd c m K) := by
  obtain ⟨h1, h⟩ := Bool.and_eq_true_iff.mp h
  obtain ⟨h2, h⟩ := Bool.and_eq_true_iff.mp h
  obtain ⟨h3, h4⟩ := Bool.and_eq_true_iff.mp h
  obtain ⟨w1, r, w2⟩ := He5.wrapB_ok h3
  exact ⟨of_decide_eq_true h1, of_decide_eq_true h2, .inr ⟨_, r, w1, w2⟩, h4⟩
/-- a plain def read off its class -/
def pmB (c m : Str) : FrB := fun K => decide (PySem.W.readsIn K (He.ga K c) (.type "type") = true) && (decide (PySem.W.specialIn K (.ref (He.ga K c)) "__getattribute__" = some (some (.builtin "type.__getattribute__"))) &&
  ((match PySem.W.findCls K (.ref (He.ga K c)) (.type "type") m with
    | some (.val (.ref a)) => decide (a = mAd c m K)
    | _ => false) && PySem.W.keepIn K (.ref (mAd c m K))))
theorem pmB_ok {K : PySem.W.Frag} {c m : Str} (h : pmB c m K = true) : CFn K (He.ga K c) m (mAd c m K) := by
  obtain ⟨h1, h⟩ := Bool.and_eq_true_iff.mp h
  obtain ⟨h2, h⟩ := Bool.and_eq_true_iff.mp h
  obtain ⟨h3, h4⟩ := Bool.and_eq_true_iff.mp h
  refine ⟨of_decide_eq_true h1, of_decide_eq_true h2, .inl ?_, h4⟩
  split at h3
  · rename_i a e
    rw [e, of_decide_eq_true h3]
  · cases h3
section
variable {X : Cx} {Y : Cy} {pos : Pos} {x : Str}
theorem pd_gstr {z : Str} (hg : Gl X x) (hm : ∃ t, X.mg x = some (.str z t)) (hd : (x == ("__debug__" : Str)) = false := by decide) : PD X Y (.Name x pos) (eC (.str z)) := by
  obtain ⟨t, hm⟩ := hm
  exact pd_glob (v := .str z) hg hm ⟨t, rfl⟩ (fun _ _ => rfl) hd
theorem pd_gint {z : Int} (hg : Gl X x) (hm : ∃ t, X.mg x = some (.int z t)) (hd : (x == ("__debug__" : Str)) = false := by decide) : PD X Y (.Name x pos) (eC (.int z)) := by
  obtain ⟨t, hm⟩ := hm
  exact pd_glob (v := .int z) hg hm ⟨t, rfl⟩ (fun _ _ => rfl) hd
end
/-- exceptions of any world -/
def CXw (P : Program) : CXT := fun outer H s E e s' => ∃ w, L2.CX P w outer H s E e s'
theorem FnOk.anyW {P : Program} {w : World} {K : PySem.W.Frag} {mg : Str → Option Value} {base : Heap} {k : Nat} {f : Addr} {fd : FuncData} {ps : List Str} {sp : Sp} (F : FnOk P w K mg base (L2.CX P w) k f fd ps sp) : FnOk P w K mg base (CXw P) k f fd ps sp :=
  ⟨F.len, fun A outer s H args us vs Q E hr e0 hb hv hs => codeAny_mono (F.run A outer s H args us vs Q E hr e0 hb hv hs) fun r s' q => by
    cases r with
    | ok fl => cases fl <;> exact q
    | error e => exact ⟨w, q⟩⟩
theorem CXw.no {P : Program} {H : Hp} {s : Shared} {e : Value} {s' : Shared} (c : CXw P [] H s (fun _ _ _ => False) e s') : False := by
  obtain ⟨w, a, B, H', cls, d, _, _, _, _, _, _, _, z⟩ := c
  exact z
end Tw

set_option maxHeartbeats 2000000
namespace Tw
open PySem PySem.Spec L2
open PyProof.Rows hiding St
/-- what K holds of the __init__ at f of the exception class at D -/
structure XcF (P : Program) (K : PySem.W.Frag) (D f : Addr) (fd : FuncData) (cda cc : Addr) : Prop where
  fn : ∃ oc od osl, K.lookup f = some ⟨oc, od, .func fd, osl⟩
  self : ∃ ar, (fd.params.posonlyargs ++ fd.params.args).head? = some ar ∧ ar.arg = "self"
  code : ∃ c1 c2 vs c3 file tf, K.lookup cda = some ⟨c1, c2, .fields vs, c3⟩ ∧ vs[2]? = some (.str file tf) ∧ ((P.main.file : Str) == file) = true
  cell : ∃ c1 c2 c3, K.lookup cc = some ⟨c1, c2, .cell (some (.ref D)), c3⟩
  cls : ∃ cd, PySem.W.clsIn K D = some cd
  sub : PySem.W.mroIn K D (.ref D) = some true
  stat : PySem.W.nsIn K cStatics "thirdparty.any" = some none
  sup : PySem.W.ks_superIn K D D "__init__" = some (some (.builtin "ValueError.__init__"))
  ve : PySem.W.subIn K (.ref D) (.type "ValueError") = some true
  top : (P.main.scope.names.lookup ("super" : Str)).isSome = false
section
open PySem.ESX PySem.HandSPX
variable {prog : Program} {w : World} {A : Around} {E : Value → Shared → Prop} {hp : Heap} {g : Array GenState} {d : Drawn} {t : Nat} {os : OsState}
variable {nm q : Str} {C N : Addr} {bs bm : List Value} {hdct : Bool} {sn : List Str} {sub : List Value} {ab : Bool} {col : Option Bool} {dd : Option Addr} {k0 k1 k2 k3 k5 : Option Value}
/-- the bound ValueError.__init__ is called -/
theorem call_mw {u x t0 : Addr} {us : List Value} {Q : Value → Shared → Prop}
    (hC : hp.get? C = some (excClassObj nm q C N bs bm hdct sn sub ab col dd k0 k1 k2 k3 k5 "ValueError.__new__")) (hx : hp.get? x = some (HandSPX.excO C t0)) (hu : hp.get? u = some (PySem.W.kxs_mw "ValueError.__init__" x)) (hl : us.length ≤ sizeLine)
    (hq : ∀ h2 t1, (∀ b o, b ≠ x → hp.get? b = some o → h2.get? b = some o) → h2.get? x = some (HandSPX.excO C t1) → Q .none ⟨h2, g, d, t, os⟩) :
    wpAny (model prog w) A (call (.ref u) us) Q E ⟨hp, g, d, t, os⟩ := by
  have mw : (Value.type "method-wrapper" == Value.type "method" || Value.type "method-wrapper" == Value.type "builtin_function_or_method" || Value.type "method-wrapper" == Value.type "method-wrapper") = true := by decide
  refine wpAny_call (codeAny_of_tree ?_)
  show wpAny (model prog w) A.in1 (callAny (.ref u) ⟨us, []⟩) _ _ _
  simp only [callAny]
  refine wpAny_bind (wpAny_load hu ?_)
  simp only [PySem.W.kxs_mw, mw, if_true]
  refine PySem.W.KFB.if_so (by decide) ?_
  refine wpAny_bind (check_bound F.excBase_ValueError hC hx rfl (wpAny_bind (wpAny_pure (wpAny_pure ?_))))
  refine ⟨Code.quiet_builtin _ (by decide +kernel), codeAny_builtin F.excBase_ValueError.initEntry ?_⟩
  rw [Around.under_plainId F.excBase_ValueError.init.plain _]
  wp_walk
  refine hq _ hp.objs.size (fun b o hb ho => (Heap.get?_update_other _ _ (Ne.symm hb)).trans (Heap.get?_push_of_some _ ho)) ?_
  exact (Heap.get?_update_self _ (Heap.get?_push_of_some _ hx) rfl).trans rfl
end
section
variable {X : Cx} {D f cda cc a : Addr} {fd : FuncData} {σ : L2.St} {H : Hp} {s : Shared} {body : List Stmt} {E : Value → Shared → Prop} {p0 p1 p2 apos pos : Pos} {m : Str} {j : Nat}
/-- the text's call super().__init__(m) is a method's call like others (its lines are one) -/
def HeX (p0 p1 p2 apos pos : Pos) (m : Str) (j : Nat) (env : Env) : Prop :=
  eval (.Call (.Attribute (.Call (.Name "super" p0) [] [] p1) "__init__" apos) [.Constant (.str m) j p2] [] pos) env = (do
    let ov ← attributeBase (.Call (.Name "super" p0) [] [] p1) "__init__" env (eval (.Call (.Name "super" p0) [] [] p1) env)
    standAt apos.atName
    let (g, fs) ← holding [ov] (getMethod ov "__init__" (do return (← importBound (.Call (.Name "super" p0) [] [] p1) env).getD true))
    callWith pos g fs (backTo pos (starEach [.Constant (.str m) j p2] env)) [])
theorem super_init (F : XcF X.prog X.K D f fd cda cc) (T : OexC X.K D) (I : Inv X [] σ H s) (hgs : X.mg "super" = none) (hks : X.env.kindOf "super" = some .globalImplicit) (hkc : X.env.kindOf "__class__" = some .free) (hkl : X.env.kindOf "self" = some .local)
    (hfu : X.env.func = some f) (hcd : X.env.code = .ref cda) (hcl : X.env.cells.lookup ("__class__" : Str) = some cc) {i : Nat} (hN : X.N[i]? = some ("self" : Str)) (hσ : σ[i]? = some (some (.ref a))) (ha : H a = some (exo a D none))
    (he : HeX p0 p1 p2 apos pos m j X.env)
    (hst : starEach (.Constant (.str m) j p2 :: []) X.env = (false, eval (.Constant (.str m) j p2) X.env) :: starEach [] X.env) {Q : Value → Shared → Prop} (h : ∀ s', Inv X [] σ H s' → Q .none s') :
    _root_.PySem.wpAt (model X.prog X.w) X.A (.func body X.env) (eval (.Call (.Attribute (.Call (.Name "super" p0) [] [] p1) "__init__" apos) [.Constant (.str m) j p2] [] pos) X.env) Q X.xe s := by
  obtain ⟨oc, od, osl, hf⟩ := F.fn
  obtain ⟨ar, har, earg⟩ := F.self
  obtain ⟨c1, c2, vs, c3, file, tf, hco, hvs, hfile⟩ := F.code
  obtain ⟨d1, d2, d3, hcell⟩ := F.cell
  obtain ⟨cd, hcls⟩ := F.cls
  have KI := I.kIn
  obtain ⟨mb, h1, h2⟩ := I.mod.blt
  obtain ⟨mL, hn, hlook⟩ := I.loc
  obtain ⟨t1, hex⟩ := exo_at I.hok ha
  obtain ⟨u, ru, hu⟩ := hlook i "self" (.ref a) hN hσ (Or.inl hkl)
  obtain rfl : u = Value.ref a := ru
  have hself : mL "self" = some (.ref a) := by
    rcases hu with ⟨_, e⟩ | ⟨k, _⟩
    · exact e
    · rw [hkl] at k
      rcases k with k | k <;> cases k
  refine PySem.ks_wpAt_MethodCall ?_ he
  refine PySem.ks_wpAt_super_base hks hkc (by decide) hfu (KI _ _ hf) rfl har hcd (KI _ _ hco) rfl hvs hfile F.top ?_
  refine PySem.W.ks_loadName_global I.ok.kind hks (Calls.loadGlobal_builtin (by rw [I.ok.glob]; exact I.mod.glob.keeps I.bk) hgs (by rw [I.ok.blt]; exact h1.keeps I.bk) ((h2 _ (by decide)).trans PyProof.Rows.Boot.«super») ⟨rfl, ?_⟩)
  refine wpAny_loadName_free I.ok.kind hkc hcl ⟨_, KI _ _ hcell, rfl⟩ ?_
  rw [earg]
  refine wpAny_loadName_local I.ok.kind hkl hn hself ?_
  obtain ⟨oD, hD1, hD2⟩ : ∃ oD, s.heap.get? D = some oD ∧ oD.data = .cls cd := by
    unfold PySem.W.clsIn at hcls
    split at hcls
    · rename_i q1 q2 cd' q4 ho
      cases hcls
      exact ⟨_, KI _ _ ho, rfl⟩
    · cases hcls
  have sup := F.sup
  unfold PySem.W.ks_superIn at sup
  rw [hcls] at sup
  refine PySem.ks_wpAny_isType_cls hD1 hD2 ⟨rfl, ?_⟩
  refine PySem.ks_wpAny_call_super hD1 hD2 hex rfl (fun c z => by cases z) (PySem.W.looks_mroIn KI F.sub) (fun h1 e1 k1 => ?_)
  have I1 : Inv X [] σ H { s with heap := h1 } := I.kept k1
  have J : PySem.W.InstAt h1 a (PySem.HandSPX.excO D t1) D none := ⟨k1 _ _ hex, rfl, rfl, trivial⟩
  have hI : PySem.W.Looks (model X.prog X.w) h1 (isInstance (.ref a) (.type "ValueError")) true := J.type.andThen (PySem.W.looks_subIn I1.kIn F.ve)
  have hne := PySem.W.ks_ne I1.kIn J hcls
  have hM : PySem.W.Looks (model X.prog X.w) h1 (mroOf (.ref D)) cd.mro := fun A Q E s k q => wpAny_bind ((PySem.W.looks_clsIn I1.kIn hcls) A _ E s k (wpAny_pure q))
  refine PySem.W.kxs_getMethod PySem.W.kxs_ValueError e1 (PySem.W.looks_opaque I1.kIn F.stat) hM rfl I1.kIn sup hI hne (by decide) ?_
  have k2 : ∀ b o, h1.get? b = some o → (h1.push (PySem.W.kxs_mw "ValueError.__init__" a)).get? b = some o := fun b o z => Heap.get?_push_of_some _ z
  have I2 : Inv X [] σ H { s with heap := h1.push (PySem.W.kxs_mw "ValueError.__init__" a), toks := s.toks + 1 } := I1.kept k2
  have hu2 : (h1.push (PySem.W.kxs_mw "ValueError.__init__" a)).get? h1.objs.size = some (PySem.W.kxs_mw "ValueError.__init__" a) := Heap.get?_push_at rfl rfl
  refine PySem.W.kxs_callWith (i := "ValueError.__init__") (x := a) (by rw [hst]; rfl) ?_
  rw [hst]
  refine PySem.Calls.evalArgs_plain ?_
  have Ip : Inv X [(h1.objs.size, PySem.W.kxs_mw "ValueError.__init__" a)] σ H { s with heap := h1.push (PySem.W.kxs_mw "ValueError.__init__" a), toks := s.toks + 1 } := I2.pins_of fun p hp => by
    rw [List.mem_singleton] at hp
    subst hp
    exact ⟨hu2, I1.hok.fresh (Nat.le_refl _), Nat.ne_of_gt I1.lt, I1.nofs (Nat.le_refl _), fun v z => by cases z⟩
  have R := (pa_cons (X := X) (pe_str (x := m) (j := j) (pos := p2)) pa_nil hst).run pos _ _ σ H (fun vs H' => vs = [V.str m] ∧ H' = H) Ip ⟨rfl, rfl⟩
  rw [hst] at R
  refine thn R fun us s3 hh => ?_
  obtain ⟨vs', H', I3, rv, rfl, rfl⟩ := hh
  have hu3 := (I3.pin (h1.objs.size, PySem.W.kxs_mw "ValueError.__init__" a) (List.mem_append_right _ List.mem_cons_self)).1
  have I4 : Inv X [] σ H' s3 := I3.pins_of fun p hp => by cases hp
  obtain ⟨t3, hex3⟩ := exo_at I4.hok ha
  obtain ⟨nm, q, N, bs, bm, sn, sub, ab, col, dd, k0, k1', k2', k3, k5, hC, hbm⟩ := T.cls
  refine ⟨hu3, ?_⟩
  have hus : us.length ≤ sizeLine := by
    rw [← rv.length, sizeLine_eq]
    exact Nat.le_of_ble_eq_true rfl
  have KI4 := I4.kIn
  obtain ⟨hp3, g3, d3', tk3, os3⟩ := s3
  refine call_mw (KI4 _ _ hC) hex3 hu3 hus fun h2' t4 kk hx2 => ?_
  have W2 := I4.write (t' := tk3) (x := a) (e := a) (o := exo a D none) (by rw [ha]; exact True.intro) (.inl rfl) kk ⟨_, hx2⟩ (exo_ok hx2)
  have same : upd H' a (exo a D none) = H' := funext fun b => by
    by_cases hb : b = a
    · rw [hb, upd_same, ha]
    · exact upd_ne hb
  rw [same] at W2
  exact h _ W2
end
end Tw

set_option maxHeartbeats 2000000
namespace Tw
open PySem PySem.Spec L2
open PyProof.Rows hiding St
/-- the context of an exception's __init__ -/
def cxX (P : Program) (w : World) (K : PySem.W.Frag) (mg : Str → Option Value) (base : Heap) (N : List Str) (qual : Str) (scope : Scope) (f cda cc : Addr) (A : Around) (outer : List Env) (s : Shared) (H : Hp) (E : XK) : Cx :=
  let env := PySem.W.envX qual scope s.heap.objs.size f (.ref cda) [("__class__", cc)]
  { prog := P, w := w, K := K, mg := mg, base := base, A := A.deeper env, N := N, s_0 := s, H_0 := H, env := env, outer := outer, stack := env :: outer, ex := [], calm := true, fn := fun y => !(y == ("__class__" : Str)), pn := [],
    xe := fun e s1 => wpAny (model P w) (A.deeper env) (leaving env e) (fun _ s2 => L2.CX P w outer H s E e s2) (fun e2 s2 => L2.CX P w outer H s E e2 s2) s1 }
structure XScope (N ps : List Str) (sc : Scope) : Prop where
  kind : sc.kind = .function
  co : sc.isCoroutine = false
  gen : sc.isGenerator = false
  nd : N.Nodup
  pre : N.take ps.length = ps
  par : ∀ x ∈ ps, sc.names.lookup x = some .local
  nocell : ∀ y ∈ sc.names, y.2 ≠ .cell
  free : ∀ y ∈ sc.names, y.2 = .free → y.1 = "__class__"
  sup : sc.names.lookup ("super" : Str) = some .globalImplicit
  dcl : sc.names.lookup ("__class__" : Str) = some .free
theorem rev_zip {x : Str} {u : Value} : ∀ {ps : List Str} {us : List Value} {i : Nat}, ps.Nodup → ps[i]? = some x → us[i]? = some u → (ps.zip us).reverse.lookup x = some u
  | [], _, _, _, h, _ => by simp at h
  | _ :: _, [], _, _, _, h => by simp at h
  | p :: ps, v :: us, 0, nd, h1, h2 => by
    simp at h1 h2
    subst h1 h2
    have hn : ((ps.zip us).reverse).lookup p = none := by
      rw [List.lookup_eq_none_iff]
      intro q hq
      rw [List.mem_reverse] at hq
      have : q.1 ∈ ps := (List.of_mem_zip (show (q.1, q.2) ∈ ps.zip us from hq)).1
      have ne : p ≠ q.1 := fun z => (List.nodup_cons.mp nd).1 (z ▸ this)
      simpa using ne
    rw [List.zip_cons_cons, List.reverse_cons, List.lookup_append, hn]
    simp
  | p :: ps, v :: us, i + 1, nd, h1, h2 => by
    rw [List.zip_cons_cons, List.reverse_cons, List.lookup_append, rev_zip (List.nodup_cons.mp nd).2 (by simpa using h1) (by simpa using h2)]
    rfl
section
variable {P : Program} {w : World} {K : PySem.W.Frag} {mg : Str → Option Value} {base hp0 : Heap} {N ps : List Str} {qual name : Str} {scope : Scope} {f cda cc D : Addr} {A : Around} {outer : List Env} {s : Shared} {H : Hp} {E : XK} {us : List Value} {vs : List V}
theorem inv_startX (KC : ∃ o v, K.lookup cc = some o ∧ o.data = .cell v) (S : XScope N ps scope) (hd : A.handled = none) (e0 : Env0 P w K mg base A outer s H) (hl : vs.length = ps.length) (r : Vals vs us) (tk : Nat)
    (hns : hp0.Ns s.heap.objs.size (fun x => (ps.zip us).reverse.lookup x)) (hk : ∀ b o, s.heap.get? b = some o → hp0.get? b = some o) :
    Inv (cxX P w K mg base N qual scope f cda cc A outer s H E) [] (L2.start N vs) H { s with heap := hp0, toks := tk } := by
  have hpl : ps.length ≤ N.length := by have := congrArg List.length S.pre; rw [List.length_take] at this; omega
  obtain ⟨oc, v0, lcc, dcc⟩ := KC
  have bcc := e0.mod.kin _ _ lcc
  have Hcc := (e0.bs _ _ bcc).2
  have scc := (e0.bs _ _ bcc).1
  have one : ∀ {y : Str} {c : Addr}, ([("__class__", cc)] : List (Str × Addr)).lookup y = some c → y = "__class__" ∧ c = cc := fun {y c} z => by
    rw [List.lookup_cons] at z
    split at z
    · rename_i q
      exact ⟨eq_of_beq q, (Option.some.inj z).symm⟩
    · cases z
  have noA : ∀ b : Addr, b ∉ (cxX P w K mg base N qual scope f cda cc A outer s H E).ex := fun b z => absurd (show b ∈ ([] : List Addr) from z) (by simp)
  refine ⟨⟨e0.mod, S.kind, rfl, rfl, Nat.le_refl _, fun y z c h1 h2 => ?_, fun y hy => ?_, fun y c hf hc => ?_, fun _ => hd, Around.frames_deeper e0.frames, .inr ⟨rfl, rfl⟩, fun b z => absurd z (noA b), e0.bs, e0.bsz, fun b _ _ => noA b, fun b z => absurd z (noA b), e0.funs, e0.frf⟩,
    rfl, e0.bare, Un.kept hk, ⟨_, hns, fun i y v h1 h2 h3 => ?_⟩, fun y c hc => ?_, e0.hok.fresh (Nat.le_refl _), fun y c hc => ?_, fun p hp => absurd (show p ∈ ([] : List (Addr × Obj)) from hp) (by simp), e0.hok.kept hk, ?_⟩
  · rw [(one h1).1, (one h2).1]
  · have hy : scope.names.lookup y = some .cell ∨ scope.names.lookup y = some .free := hy
    rcases hy with hy | hy
    · exact absurd rfl (S.nocell _ (PySem.mem_of_lookup hy))
    · have := S.free _ (PySem.mem_of_lookup hy) rfl
      have this : y = "__class__" := this
      subst this
      refine ⟨cc, ?_⟩
      show List.lookup ("__class__" : Str) [(("__class__" : Str), cc)] = some cc
      exact List.lookup_cons_self
  · have hc' := (one hc).1
    subst hc'
    have hf : (!(("__class__" : Str) == ("__class__" : Str))) = true := hf
    rw [beq_self_eq_true] at hf
    cases hf
  · have hi : i < vs.length := by
      unfold L2.start at h2
      by_cases hi : i < vs.length
      · exact hi
      · rw [List.getElem?_append_right (by simpa using hi), List.getElem?_replicate] at h2
        split at h2 <;> cases h2
    have ha : vs[i]? = some v := by
      unfold L2.start at h2
      rw [List.getElem?_append_left (by simpa using hi), List.getElem?_map] at h2
      cases e : vs[i]? with
      | none => rw [e] at h2; cases h2
      | some a => rw [e] at h2; cases h2; rfl
    obtain ⟨u, hu, rv⟩ := r.get ha
    have hp : ps[i]? = some y := by
      rw [← S.pre, List.getElem?_take_of_lt (by omega)]; exact h1
    have ndP : ps.Nodup := by rw [← S.pre]; exact S.nd.sublist (List.take_sublist _ _)
    exact ⟨u, rv, .inl ⟨S.par y (List.mem_of_getElem? hp), rev_zip ndP hp hu⟩⟩
  · obtain ⟨rfl, rfl⟩ := one hc
    exact ⟨v0, _, hk _ _ scc, dcc⟩
  · obtain ⟨rfl, rfl⟩ := one hc
    exact Hcc
  · unfold L2.start
    show _ = N.length
    rw [List.length_append, List.length_map, List.length_replicate]
    omega
theorem fn_exc {params : Arguments} {dV kV doc pm ct : Value} {an : Option Addr} {rest : List Stmt} {p0 p1 p2 apos pos pos' : Pos} {m : Str} {j k : Nat} {sp : Sp} {oc : Value} {od : Option Addr} {osl : Array (Option Value)} {fd : FuncData}
    (hfd : fd = PySem.W.fnX name qual params (.Expr (.Call (.Attribute (.Call (.Name "super" p0) [] [] p1) "__init__" apos) [.Constant (.str m) j p2] [] pos) pos' :: rest) scope [("__class__", cc)] dV kV doc pm an (.ref cda) ct)
    (lk : K.lookup f = some ⟨oc, od, .func fd, osl⟩) (hcd : PySem.W.codeIn K (.ref cda) qual = true) (F : XcF P K D f fd cda cc) (T : OexC K D) (S : XScope N ps scope) (hgs : mg "super" = none) (hp0 : ps[0]? = some ("self" : Str))
    (len : ∀ vs H Q E, sp vs H Q E → vs.length = ps.length) (hat : ∀ vs H Q E, sp vs H Q E → ∃ a us, vs = .ref a :: us ∧ H a = some (exo a D none))
    (hrest : ∀ (A : Around) (outer : List Env) (s : Shared) (H : Hp) (vs : List V) (Q : VK) (E : XK), sp vs H Q E → ∃ t, PSs (cxX P w K mg base N qual scope f cda cc A outer s H E) rest t ∧ t { nx := fun _ H' => Q .non H', rt := Q } (L2.start N vs) H)
    (he : ∀ (A : Around) (outer : List Env) (s : Shared) (H : Hp) (E : XK), HeX p0 p1 p2 apos pos m j (cxX P w K mg base N qual scope f cda cc A outer s H E).env) :
    FnOk P w K mg base (L2.CX P w) (k + 1) f fd ps sp := by
  refine ⟨len, fun A outer s H args us vs Q E hr e0 hb r hsp => ?_⟩
  have hl := len _ _ _ _ hsp
  have KX : K.In s.heap := e0.mod.kin.keeps fun b o e => (e0.bs b o e).1
  have lim : s.heap.NoLimit := e0.mod.nolimit.keeps fun b o e => (e0.bs b o e).1
  obtain ⟨a, us', rfl, ha⟩ := hat _ _ _ _ hsp
  obtain ⟨cl1, cl2, cl3, hcell⟩ := F.cell
  obtain ⟨t, ht, hq⟩ := hrest A outer s H _ Q E hsp
  have F' := F
  subst hfd
  refine PySem.ks_codeAny_call_defAt (binds := ps.zip us) hr.depth (KX _ _ lk) rfl lim (PySem.W.codeRec_of KX hcd) rfl hb S.nocell (fun y hy => S.par y.1 (List.of_mem_zip (show (y.1, y.2) ∈ ps.zip us from hy)).1) (fun h0 hns hk => ?_) S.co S.gen S.kind
  have I := inv_startX (qual := qual) (f := f) (cda := cda) (cc := cc) (E := E) (N := N) (hp0 := h0) ⟨_, _, hcell, rfl⟩ S hr.hd e0 hl r (s.toks + (ps.zip us).length) hns hk
  have hi : (L2.start N (V.ref a :: us'))[0]? = some (some (.ref a)) := start_get rfl
  have hN : N[0]? = some ("self" : Str) := by
    have := S.pre
    rw [← this, List.getElem?_take] at hp0
    split at hp0
    · exact hp0
    · cases hp0
  have hs : scope.names.lookup ("self" : Str) = some .local := S.par _ (List.mem_of_getElem? hp0)
  refine PySem.ks_wpAt_execs_cons (PySem.ks_wpAt_Expr_any ?_ (hi := by
    have hkk : (cxX P w K mg base N qual scope f cda cc A outer s H E).env.scope.kind = .function := S.kind
    show interactive (cxX P w K mg base N qual scope f cda cc A outer s H E).env = false
    unfold interactive
    rw [hkk]
    rfl))
  refine super_init (X := cxX P w K mg base N qual scope f cda cc A outer s H E) F' T I hgs S.sup S.dcl hs rfl rfl (List.lookup_cons_self) hN hi ha (he A outer s H E) rfl fun s2 I2 => ?_
  refine wpAt_of_wpAny (wpAny_mono (ht.run [] s2 _ H _ I2 hq) (fun fl s3 hs3 => ?_) fun e s3 hs3 => hs3)
  have fin : ∀ {σ' : L2.St} {H' : Hp} {v : V} {u : Value}, Inv (cxX P w K mg base N qual scope f cda cc A outer s H E) [] σ' H' s3 → RelV v u → Q v H' → CE outer P w H s Q u s3 :=
    fun {σ' H' v u} J rv q => ⟨v, H', J.os, J.bare, J.base, J.hok, rv, q⟩
  cases fl with
  | ret u =>
    obtain ⟨v, σ', H', J, rv, q⟩ := hs3
    exact fin J rv q
  | next =>
    obtain ⟨σ', H', J, q⟩ := hs3
    exact fin (v := V.non) (u := Value.none) J rfl q
  | brk => exact hs3.elim fun _ z => z.elim fun _ z => z.2.elim
  | cont => exact hs3.elim fun _ z => z.elim fun _ z => z.2.elim
end
end Tw

set_option maxHeartbeats 2000000
namespace Tw
open PySem PySem.Spec L2
open PyProof.Rows hiding St
/-- what the __init__ of an own exception does: its fields, in the order of the parameters -/
def spX (C : Addr) (fs : List Str) : Sp := fun vs H Q _ => ∃ a us, vs = .ref a :: us ∧ us.length = fs.length ∧ H a = some (exo a C none) ∧
  ∀ dx H', H dx = none → dx ≠ a → H' a = some (exo a C (some dx)) → H' dx = some (exd dx (fKeys fs.reverse us.reverse)) → (∀ b, b ≠ a → b ≠ dx → H' b = H b) → Q .non H'
/-- the making of an own exception to be raised -/
def XMk (P : Program) (w : World) (K : PySem.W.Frag) (mg : Str → Option Value) (base : Heap) (G : Gc) (x : Str) (cn : String) (fs : List Str) (j : Nat) : Prop :=
  ∃ f fd ps, FnOk P w K mg base (L2.CX P w) j f fd ps (spX (G.cm cn) fs) ∧ OexC K (G.cm cn) ∧ PySem.W.findIn K (.ref (G.cm cn)) "__init__" = some (some (.ref f)) ∧ PySem.W.typeIn K (.ref f) = some (.type "function") ∧ mg x = some (.ref (G.cm cn)) ∧ Binds K fd ps [] ∧ fs.length ≤ 900
theorem RepL.rev {G : Gc} {Z : Addr → Prop} {H : Hp} : ∀ {ds : List D} {vs : List V}, RepL G Z H ds vs → RepL G Z H ds.reverse vs.reverse
  | [], vs, h => by rw [show vs = [] from h]; exact RepL.nil
  | d :: ds, vs, h => by
    obtain ⟨v, r, rfl, h1, h2⟩ := h
    rw [List.reverse_cons, List.reverse_cons]
    exact h2.rev.append (RepL.one h1)
section
variable {X : Cx} {Y : Cy} {e : Expr} {es : List Expr} {fs : DA} {pos pos' p : Pos} {x : Str} {cn : String} {ks : List Str} {j : Nat}
theorem ds_raise (M : XMk X.prog X.w X.K X.mg X.base Y.G x cn ks j) (hj : j + 1 ≤ Y.lv) (hg : Gl X x) (ha : PDA X Y (e :: es) fs) (hdb : (x == ("__debug__" : Str)) = false := by decide) (he : starEach (e :: es) X.env = (false, eval e X.env) :: starEach es X.env := by rfl)
    (hpl : (backTo pos (starEach es X.env)).any (·.1) = false := by rfl) (hca : Y.ca = true := by rfl) : PDS X Y (.Raise (some (.Call (.Name x p) (e :: es) [] pos)) none pos') (sRaise cn ks fs) := fun k => by
  obtain ⟨f, fd, ps, F, T, iC, tI, hm, hb, hk9⟩ := M
  refine impPS (ps_raise (k.calm hca) k.tk (pmk_oex (CX := L2.CX X.prog X.w) (ds := []) (dvs := []) T iC tI F ((k.room hca).mono hj) hb .nil (fun pins σ H s u s' I c => ?_) hg hm (ha k) hdb he hpl)) fun N σ H ⟨O, ρ, s, q⟩ => ?_
  · obtain ⟨a, B, H', cls, d, _, _, _, _, _, _, _, z⟩ := c
    exact z.elim
  · refine ⟨O, ρ, s, ?_⟩
    unfold sRaise at q
    cases ea : fs ρ with
    | no => rw [ea] at q; exact q
    | ex y => rw [ea] at q; exact fun c od H1 s1 xr => q O σ H1 c od (Stp.same s1) (s.same s1) xr
    | ok ds =>
      rw [ea] at q
      simp only [R.st_ok] at q
      split at q
      rotate_left
      · exact q.elim
      rename_i hlen
      intro vs H1 s1 rs
      have hvl : vs.length = ks.length := rs.length.symm.trans hlen
      refine ⟨by rw [hvl]; omega, fun a ha => ?_⟩
      rw [List.append_nil]
      refine ⟨a, vs, rfl, hvl, upd_same, fun dx H2 hd hne h1 h2 h3 => ⟨rfl, dx, _, h1, h2, ?_, ?_⟩⟩
      · rwa [upd_ne hne] at hd
      · rw [upd_ne hne] at hd
        have sm : Same H1 (upd (del H2 a) dx (.xd (fKeys ks.reverse vs.reverse))) := fun b o hb => by
          have b1 : b ≠ a := ne_of_none hb ha
          have b2 : b ≠ dx := ne_of_none hb hd
          rw [upd_ne b2, del_ne b1, h3 b b1 b2, upd_ne b1]
          exact hb
        refine q O σ _ _ _ (Stp.same (s1.trans sm)) (s.same (s1.trans sm)) ⟨rfl, dx, vs.reverse, rfl, upd_same, by rw [List.length_reverse, List.length_reverse, hvl], (rs.same sm).rev⟩
end
section
variable {X : Cx} {C a : Addr} {N : List Str}
/-- what is left to store: the names fs (each its parameter's name), gs are stored -/
theorem xst_first {f : Str} {i : Nat} {v : V} {σ : L2.St} {H : Hp} {D : Ends} (T : OexC X.K C) (hno : PySem.W.findIn X.K (.ref C) f = some none) (hs : σ[0]? = some (some (.ref a))) (hv : σ[i]? = some (some v)) (ha : H a = some (exo a C none))
    (hq : ∀ dx, H dx = none → dx ≠ a → D.nx σ (upd (upd H dx (exd dx [(f, v)])) a (exo a C (some dx)))) : tOst X.K f (tVar 0) (tVar i) D σ H :=
  ⟨v, hv, .ref a, hs, a, C, rfl, T, hno, .inl ⟨ha, hq⟩⟩
end
end Tw

set_option maxHeartbeats 2000000
namespace Tw
open PySem PySem.Spec L2
open PyProof.Rows hiding St
section
variable {P : Program} {w : World} {K : PySem.W.Frag} {mg : Str → Option Value} {base : Heap} {qual name : Str} {scope : Scope} {f cda cc C : Addr} {params : Arguments} {dV kV doc pm ct : Value} {an : Option Addr} {p0 p1 p2 apos pos pos' q1 q2 q3 q4 : Pos} {m pr fld : Str} {j k : Nat} {oc : Value} {od : Option Addr} {osl : Array (Option Value)} {fd : FuncData}
theorem fn_exc1 (hfd : fd = PySem.W.fnX name qual params (.Expr (.Call (.Attribute (.Call (.Name "super" p0) [] [] p1) "__init__" apos) [.Constant (.str m) j p2] [] pos) pos' :: [.Assign [.Attribute (.Name "self" q1) fld q2] (.Name pr q3) q4]) scope [("__class__", cc)] dV kV doc pm an (.ref cda) ct)
    (lk : K.lookup f = some ⟨oc, od, .func fd, osl⟩) (hcd : PySem.W.codeIn K (.ref cda) qual = true) (F : XcF P K C f fd cda cc) (T : OexC K C) (S : XScope ["self", pr] ["self", pr] scope) (hgs : mg "super" = none) (hno : PySem.W.findIn K (.ref C) fld = some none)
    (he : ∀ (A : Around) (outer : List Env) (s : Shared) (H : Hp) (E : XK), HeX p0 p1 p2 apos pos m j (cxX P w K mg base ["self", pr] qual scope f cda cc A outer s H E).env)
    (d1 : (pr == ("__debug__" : Str)) = false) (d2 : (pr == ("__classdict__" : Str)) = false) : FnOk P w K mg base (L2.CX P w) (k + 1) f fd ["self", pr] (spX C [fld]) := by
  refine fn_exc (he := he) hfd lk hcd F T S hgs rfl (fun vs H Q E h => ?_) (fun vs H Q E h => ?_) (fun A outer s H vs Q E h => ?_)
  · obtain ⟨a, us, rfl, hl, _⟩ := h
    rw [List.length_cons, hl]
    rfl
  · obtain ⟨a, us, rfl, _, ha, _⟩ := h
    exact ⟨a, us, rfl, ha⟩
  · obtain ⟨a, us, rfl, hl, ha, hq⟩ := h
    obtain ⟨v, rfl⟩ : ∃ v, us = [v] := by
      match us, hl with
      | [v], _ => exact ⟨v, rfl⟩
    have hp : scope.names.lookup pr = some .local := S.par pr (List.mem_cons_of_mem _ List.mem_cons_self)
    have hs : scope.names.lookup ("self" : Str) = some .local := S.par _ List.mem_cons_self
    refine ⟨_, pss_one (ps_ost (pe_var (i := 0) rfl (Or.inl hs) (by decide) (by decide)) (pe_var (i := 1) rfl (Or.inl hp) d1 d2)), ?_⟩
    refine xst_first T hno rfl rfl ha fun dx hd hne => ?_
    refine hq dx _ hd hne upd_same ?_ fun b b1 b2 => ?_
    · rw [upd_ne hne, upd_same]
      rfl
    · rw [upd_ne b1, upd_ne b2]
end
end Tw

set_option maxHeartbeats 2000000
namespace Tw
open PySem PySem.Spec L2
open PyProof.Rows hiding St
def oexB (c : Str) : FrB := fun K => (match K.lookup (He.ga K c) with
    | some ⟨.type t, _, .cls cd, sl⟩ => decide (t = "type") && (cd.hasDict && (!cd.hasDel && (match cd.mro, sl.toList with
      | .ref C' :: bm, [_, _, _, _, some (.builtin n), _] => decide (C' = He.ga K c) && (decide (n = "ValueError.__new__") && PySem.HandSPX.refsVE bm)
      | _, _ => false)))
    | _ => false) && (decide (PySem.W.findIn K (.ref (He.ga K c)) "__setattr__" = some (some (.builtin "object.__setattr__"))) && (decide (PySem.W.subIn K (.ref (He.ga K c)) (.type "BaseException") = some true) &&
    (decide (PySem.W.typeIn K (.ref (He.ga K c)) = some (.type "type")) && PySem.W.keepIn K (.ref (He.ga K c)))))
theorem oexB_ok {K : PySem.W.Frag} {c : Str} (h : oexB c K = true) : OexC K (He.ga K c) := by
  obtain ⟨h1, h⟩ := Bool.and_eq_true_iff.mp h
  obtain ⟨h2, h⟩ := Bool.and_eq_true_iff.mp h
  obtain ⟨h3, h⟩ := Bool.and_eq_true_iff.mp h
  obtain ⟨h4, h5⟩ := Bool.and_eq_true_iff.mp h
  refine ⟨?_, of_decide_eq_true h2, of_decide_eq_true h3, of_decide_eq_true h4, h5⟩
  split at h1
  · rename_i t dd cd sl ho
    obtain ⟨k1, h1⟩ := Bool.and_eq_true_iff.mp h1
    obtain ⟨k2, h1⟩ := Bool.and_eq_true_iff.mp h1
    obtain ⟨k3, h1⟩ := Bool.and_eq_true_iff.mp h1
    split at h1
    · rename_i C' bm k0 x1 x2 x3 n x5 hm hs
      obtain ⟨k4, h1⟩ := Bool.and_eq_true_iff.mp h1
      obtain ⟨k5, k6⟩ := Bool.and_eq_true_iff.mp h1
      obtain ⟨nm, bs, mro, ns, qn, hd, sn, sub, ab, col, del⟩ := cd
      have hm : mro = .ref C' :: bm := hm
      have k2 : hd = true := k2
      have k3 : (!del) = true := k3
      have hdel : del = false := by cases del <;> first | rfl | cases k3
      have e1 : t = "type" := of_decide_eq_true k1
      have e2 : C' = He.ga K c := of_decide_eq_true k4
      have e3 : n = "ValueError.__new__" := of_decide_eq_true k5
      have hsl : sl = #[k0, x1, x2, x3, some (.builtin n), x5] := by
        obtain ⟨l⟩ := sl
        exact congrArg Array.mk hs
      rw [e2] at hm
      subst hm k2 hdel e1 e3 hsl
      exact ⟨nm, qn, ns, bs, bm, sn, sub, ab, col, dd, k0, x1, x2, x3, x5, ho, k6⟩
    · cases h1
  · cases h1
/-- the init's function, its cell, its code -/
def xfd (c : Str) (K : PySem.W.Frag) : Option FuncData := match K.lookup (mAd c "__init__" K) with
  | some ⟨_, _, .func fd, _⟩ => some fd
  | _ => none
abbrev FnX : Type := Option (Str × Str × Arguments × FuncBody × Scope × Addr × Addr)
structure DefX where
  cls : Str
  name : Str
  qual : Str
  params : Arguments
  body : List Stmt
  scope : Scope
def DefX.obs (d : DefX) (K : PySem.W.Frag) : FnX := (xfd d.cls K).map fun fd => (fd.name, fd.qualname, fd.params, fd.body, fd.scope, fd.globals, fd.builtins)
def DefX.val (d : DefX) : FnX := some (d.name, d.qual, d.params, .stmts d.body, d.scope, mainGlobals, builtinsNs)
/-- all but the rows of the text -/
def xcB (P : Program) (c : Str) (qual : Str) : FrB := fun K => (match xfd c K with
    | some fd => (match fd.closure, fd.code, fd.defaults with
      | [(x, cc)], .ref cda, .none => decide (x = ("__class__" : Str)) && (PySem.W.codeIn K (.ref cda) qual && ((match K.lookup cc with
          | some ⟨_, _, .cell (some (.ref D)), _⟩ => decide (D = He.ga K c)
          | _ => false) && (match K.lookup cda with
          | some ⟨_, _, .fields vs, _⟩ => (match (vs[2]? : Option Value) with
            | some (Value.str file _) => ((P.main.file : Str) == file)
            | _ => false)
          | _ => false)))
      | _, _, _ => false)
    | none => false) && ((PySem.W.clsIn K (He.ga K c)).isSome && (decide (PySem.W.mroIn K (He.ga K c) (.ref (He.ga K c)) = some true) && (decide (PySem.W.nsIn K cStatics "thirdparty.any" = some none) &&
    (decide (PySem.W.ks_superIn K (He.ga K c) (He.ga K c) "__init__" = some (some (.builtin "ValueError.__init__"))) && (decide (PySem.W.subIn K (.ref (He.ga K c)) (.type "ValueError") = some true) &&
    (decide (PySem.W.findIn K (.ref (He.ga K c)) "__init__" = some (some (.ref (mAd c "__init__" K)))) && decide (PySem.W.typeIn K (.ref (mAd c "__init__" K)) = some (.type "function"))))))))
/-- .. and the field f is no attribute of the class -/
def xnB (c f : Str) : FrB := fun K => decide (PySem.W.findIn K (.ref (He.ga K c)) f = some none)
structure XcA (P : Program) (K : PySem.W.Frag) (d : DefX) : Prop where
  ex : ∃ (fd : FuncData) (cc cda : Addr) (kV doc pm ct : Value) (an : Option Addr) (oc : Value) (od : Option Addr) (osl : Array (Option Value)),
    fd = PySem.W.fnX d.name d.qual d.params d.body d.scope [("__class__", cc)] .none kV doc pm an (.ref cda) ct ∧ K.lookup (mAd d.cls "__init__" K) = some ⟨oc, od, .func fd, osl⟩ ∧ PySem.W.codeIn K (.ref cda) d.qual = true ∧
      ((∃ ar, (d.params.posonlyargs ++ d.params.args).head? = some ar ∧ ar.arg = "self") → (P.main.scope.names.lookup ("super" : Str)).isSome = false → XcF P K (He.ga K d.cls) (mAd d.cls "__init__" K) fd cda cc)
  ini : PySem.W.findIn K (.ref (He.ga K d.cls)) "__init__" = some (some (.ref (mAd d.cls "__init__" K)))
  typ : PySem.W.typeIn K (.ref (mAd d.cls "__init__" K)) = some (.type "function")
theorem xcB_ok {P : Program} {K : PySem.W.Frag} {d : DefX} (h : xcB P d.cls d.qual K = true) (e : d.obs K = d.val) : XcA P K d := by
  obtain ⟨h1, h⟩ := Bool.and_eq_true_iff.mp h
  obtain ⟨h2, h⟩ := Bool.and_eq_true_iff.mp h
  obtain ⟨h3, h⟩ := Bool.and_eq_true_iff.mp h
  obtain ⟨h4, h⟩ := Bool.and_eq_true_iff.mp h
  obtain ⟨h5, h⟩ := Bool.and_eq_true_iff.mp h
  obtain ⟨h6, h⟩ := Bool.and_eq_true_iff.mp h
  obtain ⟨h7, h8⟩ := Bool.and_eq_true_iff.mp h
  refine ⟨?_, of_decide_eq_true h7, of_decide_eq_true h8⟩
  unfold DefX.obs at e
  split at h1
  rotate_left
  · cases h1
  rename_i fd hx
  rw [hx] at e
  split at h1
  rotate_left
  · cases h1
  rename_i x cc cda hcl hco hdf
  obtain ⟨k1, h1⟩ := Bool.and_eq_true_iff.mp h1
  obtain ⟨k2, h1⟩ := Bool.and_eq_true_iff.mp h1
  obtain ⟨k3, k4⟩ := Bool.and_eq_true_iff.mp h1
  have ex : x = ("__class__" : Str) := of_decide_eq_true k1
  subst ex
  unfold xfd at hx
  split at hx
  rotate_left
  · cases hx
  rename_i oc od fd' osl lk
  cases hx
  obtain ⟨n1, n2, n3, n4, n5, n6, n7, n8, n9, n10, n11, n12, n13, n14, n15⟩ := fd
  have e2 : (some (n1, n2, n3, n4, n5, n6, n15) : FnX) = some (d.name, d.qual, d.params, .stmts d.body, d.scope, mainGlobals, builtinsNs) := e
  simp only [Option.some.injEq, Prod.mk.injEq] at e2
  obtain ⟨g1, g2, g3, g4, g5, g6, g7⟩ := e2
  have hcl : n7 = [(("__class__" : Str), cc)] := hcl
  have hco : n13 = .ref cda := hco
  have hdf : n8 = .none := hdf
  subst g1 g2 g3 g4 g5 g6 g7 hcl hco hdf
  refine ⟨_, cc, cda, n9, n10, n11, n14, n12, oc, od, osl, rfl, lk, k2, fun hs ht => ?_⟩
  refine ⟨⟨_, _, _, lk⟩, hs, ?_, ?_, Option.isSome_iff_exists.mp h2, of_decide_eq_true h3, of_decide_eq_true h4, of_decide_eq_true h5, of_decide_eq_true h6, ht⟩
  · split at k4
    · rename_i a1 a2 vs a3 l2
      split at k4
      · rename_i file tf l3
        exact ⟨_, _, vs, _, file, tf, l2, l3, k4⟩
      · cases k4
    · cases k4
  · split at k3
    · rename_i a1 a2 D a3 l2
      have := of_decide_eq_true k3
      subst this
      exact ⟨_, _, _, l2⟩
    · cases k3
end Tw

set_option maxHeartbeats 2000000
namespace Tw
open PySem PySem.Spec L2
open PyProof.Rows hiding St
abbrev AlX : Type := He.AlD × List FnX
def obsX (fb : List FrB) (fa : List He.Fa) (fn : List He5.DefA) (fx : List DefX) (K : PySem.W.Frag) : AlX := (obsT fb fa fn K, fx.map fun d => d.obs K)
def valX (fn : List He5.DefA) (fx : List DefX) : AlX := (valT fn, fx.map DefX.val)
def SaysX (fb : List FrB) (fa : List He.Fa) (fn : List He5.DefA) (fx : List DefX) (K : PySem.W.Frag) : Prop := obsX fb fa fn fx K = valX fn fx
def obsXG (n : Nat) (fb : List FrB) (fa : List He.Fa) (fn : List He5.DefA) (fx : List DefX) (g : Addr → Option Obj) : AlX := obsX fb fa fn fx (He.frG g (He5.asA g n))
def hookX (n : Nat) (fb : List FrB) (fa : List He.Fa) (fn : List He5.DefA) (fx : List DefX) : PySem.W.Hook where
  α := AlX
  obs := fun s => obsXG n fb fa fn fx s.heap.get?
  val := fun _ => valX fn fx
  says := fun _ hp => ∃ K : PySem.W.Frag, K.In hp ∧ SaysX fb fa fn fx K
  of := fun _ _ z => ⟨_, He.frG_in, z⟩
  keeps := fun _ _ _ ⟨K, kin, z⟩ up => ⟨K, PySem.W.Frag.In.keeps kin up, z⟩
theorem obsXG_eq {n : Nat} {fb : List FrB} {fa : List He.Fa} {fn : List He5.DefA} {fx : List DefX} {g : Addr → Option Obj} {s : Shared} (h : ∀ a, g a = s.heap.get? a) : obsXG n fb fa fn fx g = (hookX n fb fa fn fx).obs s := by
  obtain rfl : g = s.heap.get? := funext h
  rfl
section
variable {fb : List FrB} {fa : List He.Fa} {fn : List He5.DefA} {fx : List DefX} {K : PySem.W.Frag}
theorem SaysX.base (c : SaysX fb fa fn fx K) : SaysT fb fa fn K := congrArg Prod.fst c
theorem SaysX.init (c : SaysX fb fa fn fx K) (i : Nat) {d : DefX} (h : fx[i]? = some d := by rfl) : d.obs K = d.val := by
  have z : fx.map (fun d => d.obs K) = fx.map DefX.val := congrArg Prod.snd c
  have z1 : (fx.map fun d => d.obs K)[i]? = (fx.map DefX.val)[i]? := by rw [z]
  rw [List.getElem?_map, List.getElem?_map, h] at z1
  exact Option.some.inj z1
end
section
variable {P : Program} {w : World} {K : PySem.W.Frag} {mg : Str → Option Value} {base : Heap}
/-- an own exception with one field -/
theorem xmk1 {d : DefX} {x pr fld : Str} {cn : String} {G : Gc} {p0 p1 p2 apos pos pos' q1 q2 q3 q4 : Pos} {m : Str} {j k : Nat} (X : XcA P K d) (T : OexC K (He.ga K d.cls)) (hG : G.cm cn = He.ga K d.cls) (hmx : mg x = some (.ref (He.ga K d.cls)))
    (hb : d.body = .Expr (.Call (.Attribute (.Call (.Name "super" p0) [] [] p1) "__init__" apos) [.Constant (.str m) j p2] [] pos) pos' :: [.Assign [.Attribute (.Name "self" q1) fld q2] (.Name pr q3) q4]) (S : XScope ["self", pr] ["self", pr] d.scope)
    (hs : ∃ ar, (d.params.posonlyargs ++ d.params.args).head? = some ar ∧ ar.arg = "self") (ht : (P.main.scope.names.lookup ("super" : Str)).isSome = false) (hgs : mg "super" = none) (hno : PySem.W.findIn K (.ref (He.ga K d.cls)) fld = some none)
    (hbd : ∀ (kV doc pm ct : Value) (an : Option Addr) (cc cda : Addr) (us : List Value), us.length = 2 → bindArgs (PySem.W.fnX d.name d.qual d.params d.body d.scope [("__class__", cc)] .none kV doc pm an (.ref cda) ct) ⟨us, []⟩ = pure ((["self", pr] : List Str).zip us))
    (he : ∀ (f cc cda : Addr) (A : Around) (outer : List Env) (s : Shared) (H : Hp) (E : XK), HeX p0 p1 p2 apos pos m j (cxX P w K mg base ["self", pr] d.qual d.scope f cda cc A outer s H E).env)
    (d1 : (pr == ("__debug__" : Str)) = false) (d2 : (pr == ("__classdict__" : Str)) = false) : XMk P w K mg base G x cn [fld] (k + 1) := by
  obtain ⟨fd, cc, cda, kV, doc, pm, ct, an, oc, od, osl, hfd, lk, hcd, hF⟩ := X.ex
  have F := hF hs ht
  have hfd' := hfd
  rw [hb] at hfd'
  unfold XMk
  rw [hG]
  refine ⟨_, fd, ["self", pr], fn_exc1 hfd' lk hcd F T S hgs hno (he _ cc cda) d1 d2, T, X.ini, X.typ, hmx, ?_, Nat.le_of_ble_eq_true rfl⟩
  subst hfd
  exact L2.Binds.all fun us hl => hbd kV doc pm ct an cc cda us hl
end
end Tw

set_option maxHeartbeats 2000000
namespace Tw
open PySem PySem.Spec L2
open PyProof.Rows hiding St
section
variable {P : Program} {w : World} {K : PySem.W.Frag} {mg : Str → Option Value} {base : Heap} {qual name : Str} {scope : Scope} {f cda cc C : Addr} {params : Arguments} {dV kV doc pm ct : Value} {an : Option Addr} {p0 p1 p2 apos pos pos' q1 q2 q3 q4 r1 r2 r3 r4 s1 s2 s3 s4 : Pos} {m pa pb pc fa fb fc : Str} {j k : Nat} {oc : Value} {od : Option Addr} {osl : Array (Option Value)} {fd : FuncData}
end
end Tw

set_option maxHeartbeats 2000000
namespace Tw
open PySem PySem.Spec L2
open PyProof.Rows hiding St
section
variable {X : Cx} {CX : CXT} {k : Nat} {f C : Addr} {fd : FuncData} {ps : List Str} {sp : Sp} {A1 : Around} {pins : List (Addr × Obj)} {σ : L2.St} {H : Hp} {s : Shared}
theorem run_atC {E : L2.St → XK} {Q : VK} {us : List Value} {vs : List V} (hA : Room k A1) (hf : A1.frames = X.A.frames) (F : FnOk X.prog X.w X.K X.mg X.base CX k f fd ps sp) (hb : Binds X.K fd ps []) (hx : PassesAt CX X σ (E σ)) (I : Inv X pins σ H s) (r : Vals vs us)
    (h : sp vs H Q (E σ)) : codeAny (model X.prog X.w) A1 (.call (.ref f) ⟨us, []⟩) (fun r s' => match r with | .ok (.ret v) => EP X pins σ Q v s' | .ok _ => False | .error e => X.xe e s') s := by
  have e := I.env0
  have e1 : Env0 X.prog X.w X.K X.mg X.base A1 X.stack s H := ⟨hf.trans e.frames, e.mod, e.bs, e.bsz, e.funs, e.frf, e.hok, e.bare⟩
  have hl : (us ++ []).length = ps.length := by
    rw [List.append_nil, ← r.length]
    exact F.len _ _ _ _ h
  have hb' := hb s us I.kIn hl
  rw [List.append_nil] at hb'
  refine codeAny_mono (F.run A1 X.stack s H ⟨us, []⟩ us vs Q (E σ) hA e1 hb' r h) fun q s' hq => ?_
  cases q with
  | error z => exact hx pins H s z s' I hq
  | ok fl =>
    cases fl with
    | ret u => exact I.after hq
    | next => exact hq.elim
    | brk => exact hq.elim
    | cont => exact hq.elim
theorem run_at {E : L2.St → XK} {Q : VK} {us : List Value} {vs : List V} (hA : Room k A1) (hf : A1.frames = X.A.frames) (F : FnOk X.prog X.w X.K X.mg X.base CX k f fd ps sp) (hb : Binds X.K fd ps []) (hx : PassesAt CX X σ (E σ)) (I : Inv X pins σ H s) (r : Vals vs us)
    (h : sp vs H Q (E σ)) : wpAny (model X.prog X.w) A1 (call (.ref f) us) (EP X pins σ Q) X.xe s := wpAny_call (run_atC hA hf F hb hx I r h)
end
theorem relref (p : Addr) : L2.RelV (.ref p) (.ref p) := rfl
section
variable {X : Cx} {CX : CXT} {k : Nat} {f C : Addr} {fd : FuncData} {ps : List Str} {sp : Sp} {E : L2.St → XK} {a b : Expr} {ta tb : TE} {pos : Pos}
/-- an operand's instance in the raw heap -/
theorem inst_of {pins : List (Addr × Obj)} {σ : L2.St} {H : Hp} {s : Shared} {p dx : Addr} {fs : List (Str × V)} (I : Inv X pins σ H s) (e : H p = some (.ins C dx fs)) : ∃ od m, PySem.W.InstAt s.heap p (PySem.W.instObj C dx) C (some od) ∧ Fr X.base X.env.locals s.heap m := by
  obtain ⟨mA, J, _⟩ := ins_get I.hok e
  obtain ⟨od, J, _⟩ := J.look
  obtain ⟨m, F⟩ := I.fr
  exact ⟨od, m, J, F⟩
def rOwn (C : Addr) (sp : Sp) (E : XK) : V → V → Hp → VK → Prop := fun x y H Q => ∃ p dx fs, x = .ref p ∧ H p = some (.ins C dx fs) ∧ sp [x, y] H Q E
def tIxO (C : Addr) (sp : Sp) (E : L2.St → XK) (ta tb : TE) : TE := fun σ H Q => ta σ H fun x H1 => tb σ H1 fun y H2 => rOwn C sp (E σ) x y H2 Q
theorem pe_ixO (hm : Meth X.K C "__getitem__" f) (hf : PySem.W.fnIn X.K f = true) (F : FnOk X.prog X.w X.K X.mg X.base CX k f fd ps sp) (hr : Room (k + 1) X.A) (hb : Binds X.K fd ps []) (hx : ∀ σ, PassesAt CX X σ (E σ)) (ha : PE X a ta) (hb2 : PE X b tb)
    (hs : ∀ o i, subscripted b true o i = runValue (.builtin "lifetime.subscript" ⟨[o, i], []⟩) := by intros; with_unfolding_all rfl) : PE X (.Subscript a b pos) (tIxO C sp E ta tb) := by
  refine ⟨fun pins s σ H Q I h => ?_⟩
  refine Subscript_ (binT ha hb2 I h fun v u s2 x y H2 I2 rx ry q => ?_)
  obtain ⟨p, dx, fs, rfl, e, q⟩ := q
  obtain rfl : v = Value.ref p := rx
  obtain ⟨od, m, J, Fm⟩ := inst_of I2 e
  refine PySem.W.sub_K Fm I2.ok.mod.kin J hm.at_ hf hm.fn ?_ (hs _ _)
  exact run_at (E := E) hr.in1 rfl F hb (hx σ) I2 (.cons (relref p) (.cons ry .nil)) q
/-- x in o -/
def tInO (C : Addr) (sp : Sp) (E : L2.St → XK) (n : Bool) (ta tb : TE) : TE := fun σ H Q => ta σ H fun x H1 => tb σ H1 fun y H2 => rOwn C sp (E σ) y x H2 fun v H3 => ∃ k, v = .bl k ∧ Q (.bl (if n then !k else k)) H3
theorem pc_notinO (hm : Meth X.K C "__contains__" f) (F : FnOk X.prog X.w X.K X.mg X.base CX k f fd ps sp) (hr : Room k X.A) (hb : Binds X.K fd ps []) (hx : ∀ σ, PassesAt CX X σ (E σ)) (ha : PE X a ta) (hb2 : PE X b tb) : PC X .NotIn a b (tInO C sp E true ta tb) := by
  refine ⟨fun pins s σ H Q I h => ?_⟩
  refine binT ha hb2 I h fun v u s2 x y H2 I2 rx ry q => ?_
  obtain ⟨p, dx, fs, rfl, e, q⟩ := q
  obtain rfl : u = Value.ref p := ry
  obtain ⟨od, m, J, Fm⟩ := inst_of I2 e
  refine PySem.W.notIn_K Fm I2.ok.mod.kin J hm.at_ hm.fn ?_
  refine thn (run_at (E := E) hr rfl F hb (hx σ) I2 (.cons (relref p) (.cons rx .nil)) q) fun z s3 hz => ?_
  obtain ⟨v3, H3, I3, r3, k3, e3, q3⟩ := hz
  subst e3
  cases r3
  exact wpAny_truthy_bool ⟨.bl (!k3), H3, I3, rfl, q3⟩
/-- a < b, a <= b -/
def rOwn2 (C : Addr) (Cs : Addr → Prop) (sp : Sp) (E : XK) : V → V → Hp → VK → Prop := fun x y H Q => ∃ p dx fs q C2 dx2 fs2, x = .ref p ∧ H p = some (.ins C dx fs) ∧ y = .ref q ∧ H q = some (.ins C2 dx2 fs2) ∧ Cs C2 ∧ sp [x, y] H Q E
def tOpO (C : Addr) (Cs : Addr → Prop) (sp : Sp) (E : L2.St → XK) (ta tb : TE) : TE := fun σ H Q => ta σ H fun x H1 => tb σ H1 fun y H2 => rOwn2 C Cs sp (E σ) x y H2 Q
theorem back_of {Q : VK} {pins : List (Addr × Obj)} {σ : L2.St} {u : Value} {s : Shared} (h : EP X pins σ Q u s) : PySem.W.CmpBack (EP X pins σ Q) u s := by
  have h' := h
  obtain ⟨v, H3, I3, r3, q3⟩ := h
  cases u with
  | notImplemented => cases v <;> first | (cases r3; done) | (obtain ⟨_, r3⟩ := r3; cases r3) | exact (nomatch r3)
  | _ => exact h'
theorem pc_ltO {op : CmpOp} {nm : Str} (hop : (cmpInfo op).2.1 = nm := by rfl) (ho : ∀ v u, compareOp op v u = richCompare op v u := by intros; rfl) (hm : Meth X.K C nm f) (F : FnOk X.prog X.w X.K X.mg X.base CX k f fd ps sp) (hr : Room k X.A) (hb : Binds X.K fd ps []) (hx : ∀ σ, PassesAt CX X σ (E σ))
    (hn : PySem.W.notFirst X.K C (.ref C) = true) (ha : PE X a ta) (hb2 : PE X b tb) : PC X op a b (tOpO C (fun D => D = C) sp E ta tb) := by
  refine ⟨fun pins s σ H Q I h => ?_⟩
  refine binT ha hb2 I h fun v u s2 x y H2 I2 rx ry q => ?_
  obtain ⟨p, dx, fs, q', C2, dx2, fs2, rfl, e, rfl, e2, rfl, q⟩ := q
  obtain rfl : v = Value.ref p := rx
  obtain rfl : u = Value.ref q' := ry
  obtain ⟨od, m, J, Fm⟩ := inst_of I2 e
  obtain ⟨od2, m2, J2, Fm2⟩ := inst_of I2 e2
  rw [ho]
  refine PySem.W.cmp_K hr.units0 Fm I2.ok.mod.kin J J2.type hn (by rw [hop]; exact hm.at_) hm.fn ?_
  exact thn (run_at (E := E) hr rfl F hb (hx σ) I2 (.cons (relref p) (.cons (relref q') .nil)) q) fun z s3 hz => back_of hz
end
end Tw

set_option maxHeartbeats 2000000
namespace Tw
open PySem PySem.Spec L2
open PyProof.Rows hiding St
section
variable {CX : CXT} {P : Program} {w : World} {K : PySem.W.Frag} {mg : Str → Option Value} {base : Heap} {x qual : Str} {params : Arguments} {body : List Stmt} {scope : Scope} {dvs : List V} {kws : List (Str × V)} {f : Addr} {fd : FuncData} {N ps : List Str} {k : Nat}
/-- a def's run, told with the heap's size at its start -/
theorem run_sized {sp : Nat → Sp} (F : FunD K x qual params body scope dvs kws f fd) (S : FnScope N ps scope) {A : Around} {outer : List Env} {s : Shared} {H : Hp} {args : Args} {us : List Value} {vs : List V} {Q : VK} {E : XK} (hr : Room (k + 1) A) (ee : Env0 P w K mg base A outer s H)
    (hb : BindsTo s fd args (ps.zip us)) (rv : Vals vs us) (hl : vs.length = ps.length)
    (hbody : ∀ cdv : Value, Room k (A.deeper (envOfC qual scope s.heap.objs.size f cdv)) → ∃ t, PSs (cxOf CX P w K mg base N qual scope f cdv A outer s H E) body t ∧ t { nx := fun _ H' => Q .non H', rt := Q } (L2.start N vs) H) :
    codeAny (model P w) A (.call (.ref f) args) (CR CX outer P w H s Q E) s := by
  obtain ⟨oc, od, dV, kV, doc, pm, an, cdv, ct, osl, efd, lk, hcd, _, _⟩ := F.ex
  subst efd
  have inK : K.In s.heap := ee.mod.kin.keeps fun p u e => (ee.bs p u e).1
  have nol : s.heap.NoLimit := ee.mod.nolimit.keeps fun p u e => (ee.bs p u e).1
  have kinds : ∀ z ∈ ps.zip us, scope.names.lookup z.1 = some .local ∨ (scope.names.lookup z.1 = some .cell ∧ ((cellsFrom (s.heap.objs.size + 1) scope.names []).lookup z.1).isSome = true) := by
    intro z hz
    rcases S.par z.1 (List.of_mem_zip (show (z.1, z.2) ∈ ps.zip us from hz)).1 with k1 | k1
    · exact Or.inl k1
    · exact Or.inr ⟨k1, PySem.W.cellsFrom_some _ _ _ (Or.inl k1)⟩
  refine codeAny_call_function hr.depth (inK _ _ lk) rfl S.co S.gen rfl (PySem.W.codeRec_of inK hcd) (hb _ _ _ _ (wpAny_newFunctionEnv_cells S.kind kinds fun env1 en s1 started => ?_))
  cases en
  refine ⟨nol.keeps started.toInCall.keep, codeAny_func ?_⟩
  obtain ⟨t, td, tq⟩ := hbody cdv (hr.deeper _)
  have J0 : L2.Inv (cxOf CX P w K mg base N qual scope f cdv A outer s H E) [] (L2.start N vs) H s1 :=
    inv_start S hr.hd ee hl rv started
  have run := td.run [] s1 (L2.start N vs) H { nx := fun _ H' => Q .non H', rt := Q } J0 tq
  refine wpAny_mono run (fun flow s2 h2 => ?_) fun z s2 h2 => h2
  cases flow with
  | next => exact h2.elim fun σ2 h2 => h2.elim fun H2 ⟨J, q2⟩ => ⟨V.non, H2, J.os, J.bare, J.base, J.hok, rfl, q2⟩
  | ret u2 => exact h2.elim fun v2 h2 => h2.elim fun σ2 h2 => h2.elim fun H2 ⟨J, r2, q2⟩ => ⟨v2, H2, J.os, J.bare, J.base, J.hok, r2, q2⟩
  | brk => exact (h2.elim fun _ h2 => h2.elim fun _ h2 => h2.2).elim
  | cont => exact (h2.elim fun _ h2 => h2.elim fun _ h2 => h2.2).elim
end
open PySem.W in
theorem own_it {M : Model} {A : Around} {Q : Value → Shared → Prop} {E : Value → Shared → Prop} {s : Shared} {it l : Addr} {i : Nat} (hx : s.heap.get? it = some (GNX.itObj l i)) (h : Q (.ref it) s) : OwitIt M A Q E (.ref it) s := by
  have hT : s.TypeIs (.ref it) "list_iterator" := ⟨_, hx, rfl⟩
  unfold OwitIt
  exact wpAny_specialOf (name := Str.ofString "__next__") hT slot_listiter_next.lookup h
section
variable {X : Cx} {Y : Cy} {C f : Addr} {fd : FuncData} {N ps : List Str} {x qual m : Str} {params : Arguments} {body : List Stmt} {scope : Scope} {a tg : Expr} {ta : TE} {k : Nat} {fl : Str}
def iOwnE (C : Addr) (fl : Str) (te : TE) (K : PySem.W.Frag) : TI := fun σ H R => te σ H fun v H1 => ∃ p dx fs l zs, v = .ref p ∧ H1 p = some (.ins C dx fs) ∧ fs.lookup fl = some (.ref l) ∧ H1 l = some (.lst zs) ∧ R (Itl K l) H1
/-- the body of such an __iter__, once for all contexts -/
def ItBody (P : Program) (w : World) (K : PySem.W.Frag) (mg : Str → Option Value) (base : Heap) (C f : Addr) (N : List Str) (qual : Str) (scope : Scope) (body : List Stmt) (fl : Str) : Prop :=
  ∀ (cdv : Value) (A : Around) (outer : List Env) (s : Shared) (H : Hp) (E : XK) (p dx : Addr) (fs : List (Str × V)) (l : Addr) (zs : List V) (Q : VK), H p = some (.ins C dx fs) → fs.lookup fl = some (.ref l) → H l = some (.lst zs) →
    (∀ it, H it = Option.none → s.heap.objs.size ≤ it → Q (.ref it) (upd H it (ItO l it 0))) →
    ∃ t, PSs (cxOf (L2.CX P w) P w K mg base N qual scope f cdv A outer s H E) body t ∧ t { nx := fun _ H' => Q .non H', rt := Q } (L2.start N [.ref p]) H
theorem pi_ownI (hm : Meth X.K C "__iter__" f) (F : FunD X.K x qual params body scope [] [] f fd) (S : FnScope N ps scope) (hps : ps.length = 1) (hb : Binds X.K fd ps []) (hbody : ItBody X.prog X.w X.K X.mg X.base C f N qual scope body fl) (hr : Room 1 X.A)
    (tk : ∃ W, Takes X W) (ha : PE X a ta) : PI X tg a (iOwnE C fl ta X.K) := by
  refine ⟨fun pins s σ H R I h => ?_⟩
  refine thn (ha.run pins s σ H _ I h) fun v s1 hh => ?_
  obtain ⟨x1, H1, I1, r1, p, dx, fs, l, zs, rfl, e, hl, hz, q⟩ := hh
  obtain rfl : v = Value.ref p := r1
  obtain ⟨od, m, J, Fm⟩ := inst_of I1 e
  refine PySem.W.owit_iter Fm I1.ok.mod.kin J hm.at_ hm.fn ?_
  have hl1 : ([Value.ref p] ++ []).length = ps.length := by rw [hps]; rfl
  have hb' := hb s1 [.ref p] I1.kIn hl1
  obtain ⟨W, tk⟩ := tk
  refine wpAny_call (codeAny_mono (run_sized (CX := L2.CX X.prog X.w) (E := fun c d H' => W c d σ H') (k := 0) (Q := fun v' H' => ∃ it, v' = .ref it ∧ H1 it = Option.none ∧ s1.heap.objs.size ≤ it ∧ H' = upd H1 it (ItO l it 0)) (sp := fun _ _ _ _ _ => True) F S hr I1.env0 hb' (.cons (relref p) .nil) hps.symm fun cdv hr' =>
    hbody cdv X.A X.stack s1 H1 (fun c d H' => W c d σ H') p dx fs l zs (fun v' H' => ∃ it, v' = .ref it ∧ H1 it = Option.none ∧ s1.heap.objs.size ≤ it ∧ H' = upd H1 it (ItO l it 0)) e hl hz fun it h1 h2 => ⟨it, rfl, h1, h2, rfl⟩) fun r s2 hq => ?_)
  cases r with
  | error z => exact passAt tk σ pins H1 s1 z s2 I1 hq
  | ok fw =>
    cases fw with
    | next => exact hq.elim
    | brk => exact hq.elim
    | cont => exact hq.elim
    | ret u =>
      obtain ⟨v2, H2, I2, r2, it, rfl, hit, hsz, rfl⟩ := I1.after hq
      obtain rfl : u = Value.ref it := r2
      have hi : upd H1 it (ItO l it 0) it = some (ItO l it 0) := upd_same
      have eo := itO_get I2 hi
      refine own_it eo ?_
      have hi' := hi
      unfold ItO at hi'
      have hn : X.s_0.heap.objs.size ≤ it := Nat.le_trans I1.sz hsz
      have I3 := ItX.inv_drop I2 hi'
      have fp := ItX.inv_fp I2 hi hn
      have ed : ItX.dropH (upd H1 it (ItO l it 0)) it = H1 := ItX.dropH_upd hit
      unfold ItO at ed
      have I3' : L2.Inv X pins σ H1 s2 := by rw [← ed]; exact I3
      have fp' : FpOk X pins H1 it := by rw [← ed]; exact fp
      exact ⟨it, [it], _, _, H1, rfl, I3', turn_list l it, ⟨_, eo, rfl, rfl⟩, fun b hb => by
        obtain rfl : b = it := by simpa using hb
        exact fp', q⟩
end
end Tw

set_option maxHeartbeats 2000000
namespace Tw
open PySem PySem.Spec L2
open PyProof.Rows hiding St
/-- a method by a special name -/
def Dn (P : Program) (w : World) (K : PySem.W.Frag) (mg : Str → Option Value) (base : Heap) (G : Gc) (c : String) (m : Str) (den : List D → R D) (j : Nat) : Prop :=
  ∃ f fd ps, FnOk P w K mg base (L2.CX P w) j f fd ps (dsp G den) ∧ Meth K (G.cm c) m f ∧ Binds K fd ps [] ∧ PySem.W.fnIn K f = true
theorem fnIn_of {K : PySem.W.Frag} {x qual : Str} {params : Arguments} {body : List Stmt} {scope : Scope} {dvs : List V} {kws : List (Str × V)} {f : Addr} {fd : FuncData} (F : FunD K x qual params body scope dvs kws f fd) : PySem.W.fnIn K f = true := by
  obtain ⟨oc, od, dV, kV, doc, pm, an, cdv, ct, osl, rfl, lk, _⟩ := F.ex
  unfold PySem.W.fnIn
  rw [lk]
section
variable {X : Cx} {Y : Cy} {a b o e : Expr} {fa fb fo : DE} {pos : Pos} {c : String} {den : List D → R D} {j : Nat}
/-- two operands, then something -/
theorem bin_then {O : Addr → Prop} {ρ : DEnv} {σ : L2.St} {H : Hp} {Q : VK} {k : D → D → R D} {W : V → V → Hp → Prop} (s : SR Y O ρ σ H) (q : EPost Y O σ H Q ((fa ρ).bind fun x => (fb ρ).bind fun y => k x y))
    (h : ∀ dx dy x y H2, Same H H2 → Rep Y.G (Zo Y.Ze O) H2 dx x → Rep Y.G (Zo Y.Ze O) H2 dy y → SR Y O ρ σ H2 → EPost Y O σ H2 Q (k dx dy) → W x y H2) : tD Y fa σ H fun x H1 => tD Y fb σ H1 fun y H2 => W x y H2 := by
  refine ⟨O, ρ, s, ?_⟩
  cases ea : fa ρ with
  | ex z => rw [ea] at q; exact q
  | no => rw [ea] at q; exact q
  | ok dx =>
    rw [ea] at q
    simp only [R.bind_ok] at q
    intro x H1 s1 rx
    refine ⟨O, ρ, s.same s1, ?_⟩
    cases eb : fb ρ with
    | ex z => rw [eb] at q; exact ex_fwd s1 q
    | no => rw [eb] at q; exact q
    | ok dy =>
      rw [eb] at q
      simp only [R.bind_ok] at q
      intro y H2 s2 ry
      exact h dx dy x y H2 (s1.trans s2) (rx.same s2) ry (s.same (s1.trans s2)) (EPost.fwd (s1.trans s2) q)
theorem pd_ixO (M : Dn X.prog X.w X.K X.mg X.base Y.G c "__getitem__" den j) (hj : j + 1 ≤ Y.lv) (ha : PD X Y a fa) (hb : PD X Y b fb)
    (hs : ∀ o i, subscripted b true o i = runValue (.builtin "lifetime.subscript" ⟨[o, i], []⟩) := by intros; with_unfolding_all rfl) (hca : Y.ca = true := by rfl) : PD X Y (.Subscript a b pos) (eIxO c den fa fb) := fun k => by
  obtain ⟨f, fd, ps, F, hm, hbn, hf⟩ := M
  refine impPE (pe_ixO (E := WE Y.E) hm hf F ((k.room hca).mono hj) hbn (fun σ => passAt k.tk σ) (ha k) (hb k) hs) fun σ H Q ⟨O, ρ, s, q⟩ => ?_
  refine bin_then s q fun dx dy x y H2 s2 rx ry s' q2 => ?_
  cases dx with
  | obj c' ks vs =>
    simp only at q2
    split at q2
    · rename_i hc
      subst hc
      obtain ⟨p, dp, us, rfl, n, hp, _, _⟩ := id rx
      exact ⟨p, dp, _, rfl, hp, dsp_of s' (RepL.cons rx (RepL.one ry)) q2⟩
    · exact q2.elim
  | _ => exact q2.elim
theorem bool_of {O : Addr → Prop} {σ : L2.St} {H : Hp} {Q : VK} {r : R D} {g : Bool → Bool} (q : EPost Y O σ H Q (r.bind fun z => match z with | .bl b => .ok (.bl (g b)) | _ => .no)) : EPost Y O σ H (fun v H3 => ∃ k, v = .bl k ∧ Q (.bl (g k)) H3) r := by
  cases r with
  | ex z => exact q
  | no => exact q
  | ok d =>
    cases d with
    | bl b => exact fun v H' s rv => ⟨b, rv, q _ H' s rfl⟩
    | _ => exact q.elim
theorem in_imp {n : Bool} {den' : DE} (hd : den' = if n then eRMn c den fa fo else eRM c den fa fo) (σ : L2.St) (H : Hp) (Q : VK) (h : tD Y den' σ H Q) : tInO (Y.G.cm c) (dsp Y.G den) (WE Y.E) n (tD Y fa) (tD Y fo) σ H Q := by
  obtain ⟨O, ρ, s, q⟩ := h
  subst hd
  cases n with
  | true =>
    refine bin_then (k := fun x y => match y with
      | .obj c' ks vs => if c' = c then (den [.obj c' ks vs, x]).bind fun r => match r with | .bl b => .ok (.bl (!b)) | _ => .no else .no
      | _ => .no) s q fun dx dy x y H2 s2 rx ry s' q2 => ?_
    cases dy with
    | obj c' ks vs =>
      simp only at q2
      split at q2
      · rename_i hc
        subst hc
        obtain ⟨p, dp, us, rfl, n, hp, _, _⟩ := id ry
        exact ⟨p, dp, _, rfl, hp, dsp_of s' (RepL.cons ry (RepL.one rx)) (bool_of q2)⟩
      · exact q2.elim
    | _ => exact q2.elim
  | false =>
    refine bin_then (k := fun x y => match y with
      | .obj c' ks vs => if c' = c then (den [.obj c' ks vs, x]).bind fun r => match r with | .bl b => .ok (.bl b) | _ => .no else .no
      | _ => .no) s q fun dx dy x y H2 s2 rx ry s' q2 => ?_
    cases dy with
    | obj c' ks vs =>
      simp only at q2
      split at q2
      · rename_i hc
        subst hc
        obtain ⟨p, dp, us, rfl, n, hp, _, _⟩ := id ry
        exact ⟨p, dp, _, rfl, hp, dsp_of s' (RepL.cons ry (RepL.one rx)) (bool_of (g := id) q2)⟩
      · exact q2.elim
    | _ => exact q2.elim
theorem pt_notinO (M : Dn X.prog X.w X.K X.mg X.base Y.G c "__contains__" den j) (hj : j ≤ Y.lv) (ha : PD X Y a fa) (ho : PD X Y o fo) (hmk : behindInMarks .NotIn o = false := by rfl) (hca : Y.ca = true := by rfl) : PDT X Y (.Compare a [.NotIn] [o] pos) (tVal (eRMn c den fa fo)) := fun k => by
  obtain ⟨f, fd, ps, F, hm, hbn, hf⟩ := M
  exact impPT (pt_cmp (pc_notinO (E := WE Y.E) hm F ((k.room hca).mono hj) hbn (fun σ => passAt k.tk σ) (ha k) (ho k)) hmk) fun σ H Q h => in_imp (n := true) rfl σ H _ (tval_imp σ H Q h)
/-- two objects -/
theorem op_imp {c2 : String} (σ : L2.St) (H : Hp) (Q : VK) (h : tD Y (eOp c [c2] den fa fb) σ H Q) : tOpO (Y.G.cm c) (fun D' => D' = Y.G.cm c2) (dsp Y.G den) (WE Y.E) (tD Y fa) (tD Y fb) σ H Q := by
  obtain ⟨O, ρ, s, q⟩ := h
  refine bin_then (k := fun x y => match x, y with
    | .obj c1 ks vs, .obj c2' ks2 vs2 => if c1 = c ∧ c2' ∈ [c2] then den [.obj c1 ks vs, .obj c2' ks2 vs2] else .no
    | _, _ => .no) s q fun dx dy x y H2 s2 rx ry s' q2 => ?_
  cases dx with
  | obj c1 ks vs =>
    cases dy with
    | obj c2' ks2 vs2 =>
      simp only at q2
      split at q2
      · rename_i hc
        obtain ⟨h1, h2⟩ := hc
        obtain rfl : c2' = c2 := by simpa using h2
        subst h1
        obtain ⟨p, dp, us, rfl, n, hp, _, _⟩ := id rx
        obtain ⟨p2, dp2, us2, rfl, n2, hp2, _, _⟩ := id ry
        exact ⟨p, dp, _, p2, _, dp2, _, rfl, hp, rfl, hp2, rfl, dsp_of s' (RepL.cons rx (RepL.one ry)) q2⟩
      · exact q2.elim
    | _ => exact q2.elim
  | _ => exact q2.elim
theorem pt_ltO {op : CmpOp} {nm : Str} (M : Dn X.prog X.w X.K X.mg X.base Y.G c nm den j) (hj : j ≤ Y.lv) (hop : (cmpInfo op).2.1 = nm) (hn : PySem.W.notFirst X.K (Y.G.cm c) (.ref (Y.G.cm c)) = true) (ha : PD X Y a fa) (hb : PD X Y b fb)
    (hcm : ∀ v u, compareOp op v u = richCompare op v u := by intros; rfl) (hmk : behindInMarks op b = false := by first | exact nobehind _ (by decide) (by decide) | rfl) (hca : Y.ca = true := by rfl) : PDT X Y (.Compare a [op] [b] pos) (tVal (eOp c [c] den fa fb)) := fun k => by
  obtain ⟨f, fd, ps, F, hm, hbn, hf⟩ := M
  exact impPT (pt_cmp (pc_ltO (E := WE Y.E) hop hcm hm F ((k.room hca).mono hj) hbn (fun σ => passAt k.tk σ) hn (ha k) (hb k)) hmk) fun σ H Q h => op_imp σ H _ (tval_imp σ H Q h)
end
/-- the class c's __iter__ hands on the iterator of the field fl -/
def It1 (P : Program) (w : World) (K : PySem.W.Frag) (mg : Str → Option Value) (base : Heap) (G : Gc) (c : String) (fl : Str) : Prop :=
  ∃ (f : Addr) (fd : FuncData) (N ps : List Str) (x qual : Str) (params : Arguments) (body : List Stmt) (scope : Scope), Meth K (G.cm c) "__iter__" f ∧ FunD K x qual params body scope [] [] f fd ∧ FnScope N ps scope ∧ ps.length = 1 ∧ Binds K fd ps [] ∧ ItBody P w K mg base (G.cm c) f N qual scope body fl
theorem look_fk {fl : Str} {d : D} : ∀ {ks : List Str} {l : List D} {vs : List V} {G : Gc} {Z : Addr → Prop} {H : Hp}, lookD ks l fl = some d → RepL G Z H l vs → ∃ v, (fKeys ks vs).lookup fl = some v ∧ Rep G Z H d v
  | [], _, _, _, _, _, h, _ => by cases h
  | k :: ks, [], _, _, _, _, h, _ => by cases h
  | k :: ks, d' :: l, vs, G, Z, H, h, r => by
    obtain ⟨v, r', rfl, r1, r2⟩ := r
    unfold lookD at h
    by_cases e : fl = k
    · subst e
      rw [if_pos rfl] at h
      cases h
      exact ⟨v, by simp [fKeys], r1⟩
    · rw [if_neg e] at h
      obtain ⟨u, h1, h2⟩ := look_fk h r2
      refine ⟨u, ?_, h2⟩
      have e' : (fl == k) = false := beq_eq_false_iff_ne.mpr e
      simp only [fKeys, List.lookup_cons, e']
      exact h1
section
variable {X : Cx} {Y : Cy} {a tg : Expr} {fa : DE} {c : String} {fl : Str}
theorem di_own (M : It1 X.prog X.w X.K X.mg X.base Y.G c fl) (hj : 1 ≤ Y.lv) (ha : PD X Y a fa) (hca : Y.ca = true := by rfl) : PDI X Y tg a (iOwn c fl fa) := fun k => by
  obtain ⟨f, fd, N, ps, x, qual, params, body, scope, hm, F, S, hps, hb, hbody⟩ := M
  refine impPI (pi_ownI hm F S hps hb hbody ((k.room hca).mono hj) ⟨_, k.tk⟩ (ha k)) fun σ H Q ⟨O, ρ, s, q⟩ => ?_
  refine ⟨O, ρ, s, ?_⟩
  unfold iOwn at q
  cases ea : fa ρ with
  | ex z => rw [ea] at q; exact q
  | no => rw [ea] at q; exact q
  | ok dx =>
    rw [ea] at q
    simp only [R.bind_ok] at q
    intro v H1 s1 rv
    cases dx with
    | obj c' ks l =>
      unfold itO at q
      simp only at q
      split at q
      · rename_i hc
        subst hc
        split at q
        · rename_i kinds hk
          obtain ⟨p, dp, us, rfl, n, hp, _, r1⟩ := rv
          obtain ⟨u, hu, ru⟩ := look_fk hk r1
          obtain ⟨lp, zs, rfl, nz, hl, rz⟩ := ru
          refine ⟨p, dp, _, lp, zs, rfl, hp, hu, hl, ?_⟩
          rw [k.K]
          exact q _ H1 s1 (walkS_itl nz hl rz)
        · exact q.elim
      · exact q.elim
    | _ => exact q.elim
end
end Tw
namespace Tw
open PySem PySem.Spec L2
open PyProof.Rows hiding St
/-- def __iter__(self): return iter(self.fl) -/
theorem it_body {P : Program} {w : World} {K : PySem.W.Frag} {mg : Str → Option Value} {base : Heap} {C f : Addr} {N ps : List Str} {qual fl sn : Str} {scope : Scope} {p1 p2 p3 p4 p5 : Pos} (S : FnScope N ps scope) (hN : N = [sn]) (hv : scope.names.lookup sn = some .local) (hd : (sn == ("__debug__" : Str)) = false)
    (hcd : (sn == ("__classdict__" : Str)) = false) (hi : scope.names.lookup ("iter" : Str) = some .globalImplicit) (hm : mg "iter" = none) (hc : Cls K C) (hn : NoAttr K C fl) : ItBody P w K mg base C f N qual scope [.Return (some (.Call (.Name "iter" p1) [.Attribute (.Name sn p2) fl p3] [] p4)) p5] fl := by
  intro cdv A outer s H E p dx fs l zs Q e hl hz q
  subst hN
  have vs : Vis (cxOf (L2.CX P w) P w K mg base [sn] qual scope f cdv A outer s H E).env.scope sn := .inl hv
  refine ⟨_, pss_one (ps_ret (pe_callB (X := cxOf (L2.CX P w) P w K mg base [sn] qual scope f cdv A outer s H E) ItX.call_iterN hi hm (by decide +kernel) (pa_cons (pe_fld (pe_var (i := 0) rfl vs hd hcd) rfl) pa_nil rfl) (by decide) (by decide) rfl rfl)), ?_⟩
  refine ⟨.ref p, rfl, p, C, dx, fs, .ref l, rfl, e, hc, hn, hl, l, zs, rfl, SqL.of hz, fun it h1 h2 => q it h1 h2⟩
end Tw

namespace Tw
open PySem
abbrev GD := D → D → D → List D → R (D × D × D × D)
def gD1 : D → Option Nat
  | .gst j => some j
  | _ => none
/-- the field f's own container: its place, its content -/
def fldG (i : Nat) (f : Str) (ρ : DEnv) : Option (Nat × D) := match ρ[i]? with
  | some (some (.slf s)) => match (oFld f s).bind gD1 with
    | some j => match ρ[j]? with
      | some (some (.gho d)) => some (j, d)
      | _ => none
    | none => none
  | _ => none
/-- self.f, read only -/
def eSelf (i : Nat) (f : Str) : DE := fun ρ => match fldG i f ρ with
  | some (_, d) => .ok d
  | none => match ρ[i]? with
    | some (some (.slf s)) => match oFld f s with
      | some (.gst _) => .no
      | some d => .ok d
      | none => .no
    | _ => .no
/-- self.f = [] or {} -/
def sGNew (i : Nat) (f : Str) (j : Nat) (e : DE) : DS := fun ρ => (e ρ).st ρ fun d => match ρ[i]? with
  | some (some (.slf s)) => match ρ[j]? with
    | some none => match putF f (.gst j) s with
      | some s' => .ok (.nx ((ρ.set j (some (.gho d))).set i (some (.slf s'))))
      | none => .no
    | _ => .no
  | _ => .no
/-- self.f.append(e) -/
def sGApp (i : Nat) (f : Str) (e : DE) : DS := fun ρ => match fldG i f ρ with
  | some (j, .lst l) => (e ρ).st ρ fun y => if l.length < lineD then .ok (.nx (ρ.set j (some (.gho (.lst (l ++ [y])))))) else .no
  | _ => .no
/-- self.f[k] = e -/
def sGPut (i : Nat) (f : Str) (k e : DE) : DS := fun ρ => (e ρ).st ρ fun v => match fldG i f ρ with
  | some (j, .dct ks vs) => (k ρ).st ρ fun x => match x with
    | .str s => if ks.length < lineD then .ok (.nx (ρ.set j (some (.gho (.dct (dPutK s ks) (dPutV s v ks vs)))))) else .no
    | _ => .no
  | _ => .no
/-- the fields wait for the places 12 and 13 alone -/
def okG1 : D → Bool
  | .gst j => j == 12 || j == 13
  | _ => true
def okG : D → Bool
  | .obj _ _ l => l.all okG1
  | _ => false
/-- self.m(..), the object and its containers are handed on -/
def sGCall (i : Nat) (f : GD) (as : DA) : DS := fun ρ => (as ρ).st ρ fun xs => match ρ[i]? with
  | some (some (.slf s)) => match ρ[(12 : Nat)]? with
    | some (some (.gho a)) => match ρ[(13 : Nat)]? with
      | some (some (.gho b)) => if okG s then (match f s a b xs with
        | .ok r => .ok (.nx (((ρ.set 12 (some (.gho r.2.2.1))).set 13 (some (.gho r.2.2.2))).set i (some (.slf r.2.1))))
        | .ex e => .ok (.xx e (ρ.map fun _ => none))
        | .no => .no) else .no
      | _ => .no
    | _ => .no
  | _ => .no
def outG (ρ : DEnv) (d : D) : R (D × D × D × D) := match ρ[(0 : Nat)]? with
  | some (some (.slf s)) => match ρ[(12 : Nat)]? with
    | some (some (.gho a)) => match ρ[(13 : Nat)]? with
      | some (some (.gho b)) => if okG s then .ok (d, s, a, b) else .no
      | _ => .no
    | _ => .no
  | _ => .no
def endG (r : R Out) : R (D × D × D × D) := match r with
  | .ok (.nx ρ) => outG ρ .non
  | .ok (.rt d ρ) => outG ρ d
  | .ok (.xx e _) => .ex e
  | _ => .no
/-- a method that changes the object under construction; n names, p parameters -/
def initG (n p : Nat) (b : DS) : GD := fun s g0 g1 ds => if ds.length + 1 = p ∧ n ≤ 12 ∧ okG s then endG (b ((some (.slf s) :: envD (n - 1) ds) ++ (List.replicate (12 - n) none ++ [some (.gho g0), some (.gho g1)]))) else .no
def unG (a b : D) : D → D
  | .gst j => if j = 12 then a else b
  | d => d
def outQ (r : R (D × D × D × D)) : R (D × D) := match r with
  | .ok (d, .obj c ks l, a, b) => .ok (d, .obj c ks (l.map (unG a b)))
  | .ex e => .ex e
  | _ => .no
/-- an __init__ of such an object -/
def initQ (n p : Nat) (b : DS) (s : D) (ds : List D) : R (D × D) := if ds.length + 1 = p ∧ n ≤ 12 then outQ (endG (b ((some (.slf s) :: envD (n - 1) ds) ++ List.replicate (14 - n) none))) else .no
def sGCallC (c : String) (i : Nat) (f : GD) (as : DA) : DS := fun ρ => match ρ[i]? with
  | some (some (.slf (.obj c' _ _))) => if c' = c then sGCall i f as ρ else .no
  | _ => .no
/-- C.__init__(self, ..) -/
def sInitC (i : Nat) (f : D → List D → R (D × D)) (as : DA) : DS := fun ρ => match ρ[i]? with
  | some (some (.slf (.obj c ks l))) => (as ρ).st ρ fun xs => if noGst l then (match f (.obj c ks l) xs with
    | .ok p => .ok (.nx (ρ.set i (some (.slf p.2))))
    | .ex e => .ok (.xx e (ρ.map fun _ => none))
    | .no => .no) else .no
  | _ => .no
/-- x(..), x a name that holds the class c -/
def eCls (c : String) (init : D → List D → R (D × D)) (i : Nat) (as : DA) : DE := fun ρ => match ρ[i]? with
  | some (some (.val (.cls c'))) => if c' = c then (as ρ).bind (mkD c init) else .no
  | _ => .no
/-- C.m(..), m a classmethod of C -/
def eClm (c : String) (f : List D → R D) (as : DA) : DE := fun ρ => (as ρ).bind fun xs => f (.cls c :: xs)
/-- how the arguments of Draft(..) come together -/
def gDr1 (ds es : List D) : List D := ds ++ (es ++ [.tup [], .tup []])
def gDr2 (ds es : List D) : List D := ds ++ (es ++ [.tup []])
def gDr3 (ds es : List D) : List D := ds ++ (es ++ [])
/-- what is walked is a list -/
def iLst (e : DE) : DI := fun ρ => (e ρ).bind fun x => match x with
  | .lst l => .ok l
  | _ => .no
end Tw

set_option maxHeartbeats 2000000
namespace Tw
open PySem PySem.Spec L2
open PyProof.Rows hiding St
section
variable {Y : Cy} {O : Addr → Prop} {ρ : DEnv} {σ : L2.St} {H H' : Hp} {α : Nat → Addr} {i j : Nat} {f : Str} {d s : D}
theorem fldG_eq (h : fldG i f ρ = some (j, d)) : ∃ s, ρ[i]? = some (some (.slf s)) ∧ oFld f s = some (.gst j) ∧ ρ[j]? = some (some (.gho d)) := by
  unfold fldG at h
  split at h
  · rename_i s hs
    split at h
    · rename_i k hk
      split at h
      · rename_i d' hd
        cases h
        refine ⟨s, hs, ?_, hd⟩
        cases e : oFld f s with
        | none => rw [e] at hk; cases hk
        | some x =>
          rw [e] at hk
          cases x <;> first | (cases hk; done) | (cases hk; rfl)
      · cases h
    · cases h
  · cases h
theorem lookGL {G : Gc} {Z : Addr → Prop} {fl : Str} {d : D} : ∀ {ks : List Str} {l : List D} {vs : List V}, lookD ks l fl = some d → RepGL G Z α ρ H l vs → ∃ v, (fKeys ks vs).lookup fl = some v ∧ RepG G Z α ρ H d v
  | [], _, _, h, _ => by cases h
  | k :: ks, [], _, h, _ => by cases h
  | k :: ks, d' :: l, vs, h, r => by
    obtain ⟨v, r', rfl, r1, r2⟩ := r
    unfold lookD at h
    by_cases e : fl = k
    · subst e
      rw [if_pos rfl] at h
      cases h
      exact ⟨v, by simp [fKeys], r1⟩
    · rw [if_neg e] at h
      obtain ⟨u, h1, h2⟩ := lookGL h r2
      refine ⟨u, ?_, h2⟩
      have e' : (fl == k) = false := beq_eq_false_iff_ne.mpr e
      simp only [fKeys, List.lookup_cons, e']
      exact h1
theorem oFld_look {f : Str} {s d : D} (h : oFld f s = some d) : ∃ c ks l, s = .obj c ks l ∧ lookD ks l f = some d := by
  cases s with
  | obj c ks l =>
    refine ⟨c, ks, l, rfl, ?_⟩
    have h' : (match lookD ks l f with | some v => some v | none => none) = some d := h
    cases e : lookD ks l f with
    | none => rw [e] at h'; cases h'
    | some v => rw [e] at h'; exact h'
  | _ => cases h
/-- the object's field in the heap -/
theorem slf_fld (sr : SRa Y O α ρ σ H) (hs : ρ[i]? = some (some (.slf s))) (hf : oFld f s = some d) : ∃ c dx fs v, σ[i]? = some (some (.ref Y.sa)) ∧ α i = Y.sa ∧ H Y.sa = some (.ins (Y.G.cm c) dx fs) ∧ Y.G.has c ∧ f ∈ fldOf c ∧ fs.lookup f = some v ∧ RepG Y.G (Zo Y.Ze O) α ρ H d v := by
  obtain ⟨e1, e2, c, ks, l, dx, vs, rfl, hH, ⟨hl, hc, hk⟩, r⟩ := sr.slf i s hs
  obtain ⟨c', ks', l', e, hd⟩ := oFld_look hf
  cases e
  obtain ⟨v, hv, rv⟩ := lookGL hd r
  rw [e2] at e1 hH
  exact ⟨c, dx, _, v, e1, e2, hH, hc, hk f (lookD_mem hd), hv, rv⟩
/-- a mutation of a container that the object under construction holds -/
theorem SRa.mutH {d' : D} {o : HO} (s : SRa Y O α ρ σ H) (hj : ρ[j]? = some (some (.gho d))) (k : H (α j) ≠ none → O (α j) → RepW Y.G (Zo Y.Ze O) (upd H (α j) o) d' (.ref (α j))) : SRa Y O α (ρ.set j (some (.gho d'))) σ (upd H (α j) o) := by
  have hl : j < ρ.length := (List.getElem?_eq_some_iff.mp hj).1
  have oj : isOwn ρ j := ⟨d, .inr (.inr hj)⟩
  have Oj : O (α j) := (s.oeq _).mpr ⟨j, oj, rfl⟩
  have hne := s.ot _ Oj
  obtain ⟨rj, nj⟩ := s.gho j d hj
  have sub : ∀ i, isOwn (ρ.set j (some (.gho d'))) i ↔ isOwn ρ i := fun i => by
    refine ⟨fun h => ?_, fun h => ?_⟩
    · rcases isOwn_set h with ⟨e, _⟩ | ⟨_, k⟩
      · rw [e]; exact oj
      · exact k
    · by_cases hi : i = j
      · subst hi
        exact ⟨d', .inr (.inr (List.getElem?_set_self hl))⟩
      · obtain ⟨d'', h⟩ := h
        refine ⟨d'', ?_⟩
        rw [List.getElem?_set_ne (Ne.symm hi)]
        exact h
  have sb : Sub (Zo Y.Ze O) H (upd H (α j) o) := fun a u n e => by
    rw [upd_ne fun q => n (.inr (by rw [q]; exact Oj))]
    exact e
  have an : ∀ i, isOwn ρ i → i ≠ j → α i ≠ α j := fun i h n e => n (s.inj i j h oj e)
  have rw' : ∀ {d : D} {p : Addr}, p ≠ α j → RepW Y.G (Zo Y.Ze O) H d (.ref p) → RepW Y.G (Zo Y.Ze O) (upd H (α j) o) d (.ref p) := fun {d p} hp r => by
    cases d with
    | lst l => obtain ⟨a, vs, e, t, r⟩ := r; cases e; exact ⟨_, vs, rfl, by rw [upd_ne hp]; exact t, r.mono sb fun _ q => .inl q⟩
    | dct ks l => obtain ⟨a, vs, e, t, k, r⟩ := r; cases e; exact ⟨_, vs, rfl, by rw [upd_ne hp]; exact t, k, r.mono sb fun _ q => .inl q⟩
    | obj c ks l => obtain ⟨a, dx, vs, e, t, k, r⟩ := r; cases e; exact ⟨_, dx, vs, rfl, by rw [upd_ne hp]; exact t, k, r.mono sb fun _ q => .inl q⟩
    | _ => exact Rep.mono sb (fun _ q => .inl q) r
  have gl : ∀ {ds : List D} {vs : List V}, RepGL Y.G (Zo Y.Ze O) α ρ H ds vs → RepGL Y.G (Zo Y.Ze O) α (ρ.set j (some (.gho d'))) (upd H (α j) o) ds vs := by
    intro ds
    induction ds with
    | nil => intro vs h; exact h
    | cons d ds ih =>
      intro vs h
      obtain ⟨v, r, e, h1, h2⟩ := h
      refine ⟨v, r, e, ?_, ih h2⟩
      cases d with
      | gst i =>
        obtain ⟨e, d'', kk⟩ := h1
        by_cases hi : i = j
        · subst hi; exact ⟨e, d', List.getElem?_set_self hl⟩
        · exact ⟨e, d'', by rw [List.getElem?_set_ne (Ne.symm hi)]; exact kk⟩
      | _ => exact Rep.mono sb (fun _ q => .inl q) h1
  refine ⟨by rw [List.length_set]; exact s.len, fun i d'' e => ?_, fun i d'' e => ?_, fun i d'' e => ?_, fun i d'' e => ?_, fun i k hi hk e => s.inj i k ((sub i).mp hi) ((sub k).mp hk) e, fun a => ?_, fun a z q => ?_, fun a z q => ?_, ptrA s.ptr rfl fun _ _ r => r.mono sb fun _ q => .inl q⟩
  · rcases set_at e with ⟨_, q⟩ | ⟨_, q⟩
    · cases q
    · obtain ⟨v, e1, r⟩ := s.val i d'' q
      exact ⟨v, e1, r.mono sb fun _ q => .inl q⟩
  · rcases set_at e with ⟨_, q⟩ | ⟨hi, q⟩
    · cases q
    · obtain ⟨e1, n, r⟩ := s.own i d'' q
      exact ⟨e1, n, rw' (an i ⟨d'', .inl q⟩ hi) r⟩
  · rcases set_at e with ⟨_, q⟩ | ⟨hi, q⟩
    · cases q
    · obtain ⟨e1, n, c, ks, l, dx, vs, e2, e3, e4, r⟩ := s.slf i d'' q
      exact ⟨e1, n, c, ks, l, dx, vs, e2, by rw [upd_ne (an i ⟨d'', .inr (.inl q)⟩ hi)]; exact e3, e4, gl r⟩
  · rcases set_at e with ⟨rfl, q⟩ | ⟨hi, q⟩
    · cases q
      exact ⟨k hne Oj, nj⟩
    · obtain ⟨r, k⟩ := s.gho i d'' q
      exact ⟨rw' (an i ⟨d'', .inr (.inr q)⟩ hi) r, k⟩
  · rw [s.oeq]
    exact ⟨fun ⟨i, k, e⟩ => ⟨i, (sub i).mpr k, e⟩, fun ⟨i, k, e⟩ => ⟨i, (sub i).mp k, e⟩⟩
  · by_cases h : a = α j
    · subst h; rw [upd_same] at q; cases q
    · rw [upd_ne h] at q; exact s.zt a z q
  · by_cases h : a = α j
    · subst h; rw [upd_same] at q; cases q
    · rw [upd_ne h] at q; exact s.ot a z q
/-- a new container for a place of the object under construction -/
theorem SRa.putH {p : Addr} (s : SRa Y O α ρ σ H) (sm : Same H H') (hp0 : H p = none) (hj : ρ[j]? = some none) (hn : Y.n ≤ j) (hp : H' p ≠ none) (r : RepW Y.G (fun a => Zo Y.Ze O a ∨ a = p) H' d (.ref p)) :
    SRa Y (fun a => O a ∨ a = p) (fun i => if i = j then p else α i) (ρ.set j (some (.gho d))) σ H' := by
  have zt : ∀ a, Zo Y.Ze O a → H a ≠ none := fun a z => z.elim (s.zt a) (s.ot a)
  have hz : ¬ Zo Y.Ze O p := fun z => zt p z hp0
  have hl : j < ρ.length := (List.getElem?_eq_some_iff.mp hj).1
  have sub : ∀ i, isOwn (ρ.set j (some (.gho d))) i ↔ i = j ∨ isOwn ρ i := fun i => by
    refine ⟨fun h => ?_, fun h => ?_⟩
    · rcases isOwn_set h with ⟨e, _⟩ | ⟨_, k⟩
      · exact .inl e
      · exact .inr k
    · by_cases hi : i = j
      · subst hi
        exact ⟨d, .inr (.inr (List.getElem?_set_self hl))⟩
      · rcases h with h | h
        · exact absurd h hi
        · obtain ⟨d', h⟩ := h
          refine ⟨d', ?_⟩
          rw [List.getElem?_set_ne (Ne.symm hi)]
          exact h
  have zz : ∀ a, Zo Y.Ze (fun a => O a ∨ a = p) a → Zo Y.Ze O a ∨ H a = none := fun a z => by
    rcases z with z | z | rfl
    · exact .inl (.inl z)
    · exact .inl (.inr z)
    · exact .inr hp0
  have aj : ∀ i, isOwn ρ i → (if i = j then p else α i) = α i ∧ α i ≠ p := fun i h => by
    have hi : i ≠ j := fun e => isOwn_none hj (e ▸ h)
    exact ⟨if_neg hi, fun e => hz (.inr (e ▸ (s.oeq _).mpr ⟨i, h, rfl⟩))⟩
  refine ⟨by rw [List.length_set]; exact s.len, fun i d' e => ?_, fun i d' e => ?_, fun i d' e => ?_, fun i d' e => ?_, fun i k hi hk e => ?_, fun a => ?_, fun a z q => s.zt a z (sm.free q), fun a z => ?_, ptrA s.ptr rfl fun _ _ r => r.mono (Same.sub sm) zz⟩
  · rcases set_at e with ⟨rfl, q⟩ | ⟨hi, q⟩
    · cases q
    · obtain ⟨v, e1, r⟩ := s.val i d' q
      exact ⟨v, e1, r.mono (Same.sub sm) zz⟩
  · rcases set_at e with ⟨rfl, q⟩ | ⟨hi, q⟩
    · cases q
    · obtain ⟨e1, n, r⟩ := s.own i d' q
      rw [if_neg hi]
      exact ⟨e1, n, r.mono sm zz⟩
  · rcases set_at e with ⟨rfl, q⟩ | ⟨hi, q⟩
    · cases q
    · obtain ⟨e1, n, c, ks, l, dx, vs, e2, e3, e4, r⟩ := s.slf i d' q
      rw [if_neg hi]
      refine ⟨e1, n, c, ks, l, dx, vs, e2, sm _ _ e3, e4, RepGL.mono sm zz (fun k d'' hk => ?_) r⟩
      have hki : k ≠ j := fun e => by subst e; rw [hj] at hk; cases hk
      exact ⟨if_neg hki, d'', by rw [List.getElem?_set_ne (Ne.symm hki)]; exact hk⟩
  · rcases set_at e with ⟨rfl, q⟩ | ⟨hi, q⟩
    · cases q
      rw [if_pos rfl]
      exact ⟨r.weak fun a z => by rcases z with z | z | z; exact .inl (.inl z); exact .inl (.inr z); exact .inr z, hn⟩
    · obtain ⟨r, k⟩ := s.gho i d' q
      rw [if_neg hi]
      exact ⟨r.mono sm zz, k⟩
  · rcases (sub i).mp hi with rfl | hi'
    · rcases (sub k).mp hk with rfl | hk'
      · rfl
      · have e : p = if k = i then p else α k := by rw [if_pos rfl] at e; exact e
        rw [(aj k hk').1] at e
        exact absurd e.symm (aj k hk').2
    · rcases (sub k).mp hk with rfl | hk'
      · have e : (if i = k then p else α i) = p := by rw [if_pos (rfl : k = k)] at e; exact e
        rw [(aj i hi').1] at e
        exact absurd e (aj i hi').2
      · have e : (if i = j then p else α i) = if k = j then p else α k := e
        rw [(aj i hi').1, (aj k hk').1] at e
        exact s.inj i k hi' hk' e
  · refine ⟨fun h => ?_, fun ⟨i, h, e⟩ => ?_⟩
    · rcases h with h | rfl
      · obtain ⟨i, hi, e⟩ := (s.oeq a).mp h
        exact ⟨i, (sub i).mpr (.inr hi), (aj i hi).1.trans e⟩
      · exact ⟨j, (sub j).mpr (.inl rfl), if_pos rfl⟩
    · have e : (if i = j then p else α i) = a := e
      rcases (sub i).mp h with rfl | h
      · rw [if_pos rfl] at e
        exact .inr e.symm
      · rw [(aj i h).1] at e
        exact .inl ((s.oeq a).mpr ⟨i, h, e⟩)
  · rcases z with z | rfl
    · exact fun q => s.ot a z (sm.free q)
    · exact hp
/-- a field of the object under construction is stored -/
theorem SRa.mutS {d d' dv : D} {y : V} (s : SRa Y O α ρ σ H) (hi : ρ[i]? = some (some (.slf d))) (ry : RepG Y.G (Zo Y.Ze O) α ρ H dv y) (hp : putF f dv d = some d') :
    ∃ c ks dx vs, f ∈ fldOf c ∧ Y.G.has c ∧ ks.length < 999 ∧ ks.length = vs.length ∧ σ[i]? = some (some (.ref Y.sa)) ∧ O Y.sa ∧ H Y.sa = some (.ins (Y.G.cm c) dx (fKeys ks vs)) ∧
      SRa Y O α (ρ.set i (some (.slf d'))) σ (upd H Y.sa (.ins (Y.G.cm c) dx (L2.putF f y (fKeys ks vs)))) := by
  have hl : i < ρ.length := (List.getElem?_eq_some_iff.mp hi).1
  obtain ⟨ei, ea, c, ks, l, dx, vs, rfl, hH, ⟨hlen, hc, hf⟩, rl⟩ := s.slf i d hi
  have oi : isOwn ρ i := ⟨_, .inr (.inl hi)⟩
  have Oi : O (α i) := (s.oeq _).mpr ⟨i, oi, rfl⟩
  unfold putF at hp
  simp only at hp
  split at hp
  rotate_left
  · cases hp
  rename_i hpk
  cases hp
  rw [ea] at ei Oi hH
  generalize hnew : D.obj c (putDk f ks) (putDv f dv ks l) = d'
  have sub : ∀ j, isOwn (ρ.set i (some (.slf d'))) j ↔ isOwn ρ j := fun j => isOwn_setSlf hi
  have sb : Sub (Zo Y.Ze O) H (upd H Y.sa (.ins (Y.G.cm c) dx (L2.putF f y (fKeys ks vs)))) := fun a u n e => by
    rw [upd_ne fun q => n (.inr (by rw [q]; exact Oi))]
    exact e
  have an : ∀ j, isOwn ρ j → j ≠ i → α j ≠ Y.sa := fun j h n e => n (s.inj j i h oi (e.trans ea.symm))
  have rw' : ∀ {d : D} {p : Addr}, p ≠ Y.sa → RepW Y.G (Zo Y.Ze O) H d (.ref p) → RepW Y.G (Zo Y.Ze O) (upd H Y.sa (.ins (Y.G.cm c) dx (L2.putF f y (fKeys ks vs)))) d (.ref p) := fun {d p} hp r => by
    cases d with
    | lst l => obtain ⟨a, vs, e, t, r⟩ := r; cases e; exact ⟨_, vs, rfl, by rw [upd_ne hp]; exact t, r.mono sb fun _ q => .inl q⟩
    | dct ks l => obtain ⟨a, vs, e, t, k, r⟩ := r; cases e; exact ⟨_, vs, rfl, by rw [upd_ne hp]; exact t, k, r.mono sb fun _ q => .inl q⟩
    | obj c ks l => obtain ⟨a, dx, vs, e, t, k, r⟩ := r; cases e; exact ⟨_, dx, vs, rfl, by rw [upd_ne hp]; exact t, k, r.mono sb fun _ q => .inl q⟩
    | _ => exact Rep.mono sb (fun _ q => .inl q) r
  have g1 : ∀ {d : D} {v : V}, RepG Y.G (Zo Y.Ze O) α ρ H d v → RepG Y.G (Zo Y.Ze O) α (ρ.set i (some (.slf d'))) (upd H Y.sa (.ins (Y.G.cm c) dx (L2.putF f y (fKeys ks vs)))) d v := by
    intro d v h1
    cases d with
    | gst j =>
      obtain ⟨e, d'', kk⟩ := h1
      have hki : j ≠ i := fun e => by subst e; rw [hi] at kk; cases kk
      exact ⟨e, d'', by rw [List.getElem?_set_ne (Ne.symm hki)]; exact kk⟩
    | _ => exact Rep.mono sb (fun _ q => .inl q) h1
  have gl : ∀ {ds : List D} {vs' : List V}, RepGL Y.G (Zo Y.Ze O) α ρ H ds vs' → RepGL Y.G (Zo Y.Ze O) α (ρ.set i (some (.slf d'))) (upd H Y.sa (.ins (Y.G.cm c) dx (L2.putF f y (fKeys ks vs)))) ds vs' := by
    intro ds
    induction ds with
    | nil => intro vs h; exact h
    | cons d ds ih =>
      intro vs h
      obtain ⟨v, r, e, h1, h2⟩ := h
      exact ⟨v, r, e, g1 h1, ih h2⟩
  refine ⟨c, ks, dx, vs, hpk.2, hc, hpk.1, hlen, ei, Oi, hH, by rw [List.length_set]; exact s.len, fun j d'' e => ?_, fun j d'' e => ?_, fun j d'' e => ?_, fun j d'' e => ?_, fun j k hj hk e => s.inj j k ((sub j).mp hj) ((sub k).mp hk) e, fun a => ?_, fun a z q => ?_, fun a z q => ?_, ptrA s.ptr rfl fun _ _ r => r.mono sb fun _ q => .inl q⟩
  · rcases set_at e with ⟨_, q⟩ | ⟨_, q⟩
    · cases q
    · obtain ⟨v, e1, r⟩ := s.val j d'' q
      exact ⟨v, e1, r.mono sb fun _ q => .inl q⟩
  · rcases set_at e with ⟨_, q⟩ | ⟨hj, q⟩
    · cases q
    · obtain ⟨e1, n, r⟩ := s.own j d'' q
      exact ⟨e1, n, rw' (an j ⟨d'', .inl q⟩ hj) r⟩
  · rcases set_at e with ⟨ej, q⟩ | ⟨hj, q⟩
    · cases q
      subst ej
      refine ⟨by rw [ei, ea], ea, c, _, _, dx, putVv f y ks vs, hnew.symm, ?_, ⟨putVv_len hlen, hc, fun g hg => (putDk_mem hg).elim (fun e => by rw [e]; exact hpk.2) (hf g)⟩, repGL_put (g1 ry) hlen (gl rl)⟩
      rw [ea, upd_same, putF_k hlen]
    · obtain ⟨e1, n, c, ks, l, dx, vs, e2, e3, e4, r⟩ := s.slf j d'' q
      exact absurd n (an j ⟨d'', .inr (.inl q)⟩ hj)
  · rcases set_at e with ⟨_, q⟩ | ⟨hj, q⟩
    · cases q
    · obtain ⟨r, k⟩ := s.gho j d'' q
      exact ⟨rw' (an j ⟨d'', .inr (.inr q)⟩ hj) r, k⟩
  · rw [s.oeq]
    exact ⟨fun ⟨j, k, e⟩ => ⟨j, (sub j).mpr k, e⟩, fun ⟨j, k, e⟩ => ⟨j, (sub j).mp k, e⟩⟩
  · by_cases h : a = Y.sa
    · subst h; rw [upd_same] at q; cases q
    · rw [upd_ne h] at q; exact s.zt a z q
  · by_cases h : a = Y.sa
    · subst h; rw [upd_same] at q; cases q
    · rw [upd_ne h] at q; exact s.ot a z q
end
end Tw

set_option maxHeartbeats 2000000
namespace Tw
open PySem PySem.Spec L2
open PyProof.Rows hiding St
section
variable {X : Cx} {Y : Cy} {a b e o tg : Expr} {fa fb : DE} {pos pos' p p2 apos cpos : Pos} {x f : Str} {i j : Nat}
theorem SR.sa_of {O : Addr → Prop} {ρ : DEnv} {σ : L2.St} {H : Hp} {s : D} (sr : SR Y O ρ σ H) (hs : ρ[i]? = some (some (.slf s))) : σ[i]? = some (some (.ref Y.sa)) ∧ O Y.sa := by
  obtain ⟨α, sr⟩ := sr
  obtain ⟨e1, e2, _⟩ := sr.slf i s hs
  exact ⟨by rw [← e2]; exact e1, (sr.oeq _).mpr ⟨i, ⟨s, .inr (.inl hs)⟩, e2⟩⟩
/-- self.f -/
theorem pd_self (i : Nat) (hN : X.N[i]? = some x) (hv : Vis X.env.scope x := by first | exact Or.inl rfl | exact Or.inr (Or.inl rfl) | exact Or.inr (Or.inr rfl)) (hd : (x == ("__debug__" : Str)) = false := by decide) (hcd : (x == ("__classdict__" : Str)) = false := by decide)
    (hb : attributeBase (.Name x p) f X.env (eval (.Name x p) X.env) = eval (.Name x p) X.env := by rfl) : PDw X Y (.Attribute (.Name x p) f pos) (eSelf i f) := fun k => by
  refine impPE (pe_fld (pe_var hN hv hd hcd) hb) fun σ H Q ⟨O, ρ, ⟨α, s⟩, q⟩ => ?_
  unfold eSelf at q
  split at q
  · rename_i j d hj
    obtain ⟨sd, hs, hf, hg⟩ := fldG_eq hj
    obtain ⟨c, dx, fs, v, e1, e2, hH, hc, hk, hl, rv⟩ := slf_fld s hs hf
    obtain ⟨rfl, d', _⟩ := rv
    obtain ⟨rg, _⟩ := s.gho j d hg
    exact ⟨_, e1, Y.sa, Y.G.cm c, dx, fs, _, rfl, hH, k.K ▸ Y.G.cls c hc, k.K ▸ Y.G.noat c f hc hk, hl, q _ H (Same.refl H) rg⟩
  · split at q
    · rename_i sd hs
      split at q
      · exact q.elim
      · rename_i d hn hf
        obtain ⟨c, dx, fs, v, e1, e2, hH, hc, hk, hl, rv⟩ := slf_fld s hs hf
        have rv' : Rep Y.G (Zo Y.Ze O) H d v := by
          cases d with
          | gst j => exact (hn j rfl).elim
          | _ => exact rv
        exact ⟨_, e1, Y.sa, Y.G.cm c, dx, fs, v, rfl, hH, k.K ▸ Y.G.cls c hc, k.K ▸ Y.G.noat c f hc hk, hl, q _ H (Same.refl H) rv'.w⟩
      · exact q.elim
    · exact q.elim
/-- self.f = [] -/
theorem ds_gnew (hN : X.N[i]? = some x) (ha : PDF X Y a fa) (hj : Y.n ≤ j) (hv : Vis X.env.scope x := by first | exact Or.inl rfl | exact Or.inr (Or.inl rfl) | exact Or.inr (Or.inr rfl)) (hd : (x == ("__debug__" : Str)) = false := by decide) (hcd : (x == ("__classdict__" : Str)) = false := by decide)
    (hs : swapsWith a (some (.Attribute (.Name x p) f pos')) pos.line X.env = pure false := by rfl) : PDS X Y (.Assign [.Attribute (.Name x p) f pos'] a pos) (sGNew i f j fa) := fun k => by
  refine impPS (ps_fld (pe_var hN hv hd hcd) (ha k) hs) fun N σ H ⟨O, ρ, s, q⟩ => ?_
  unfold sGNew at q
  refine expf_then s q fun d ea q p1 H1 s1 h0 h1 rv => ?_
  split at q
  · rename_i sd hs
    split at q
    · rename_i hjn
      split at q
      · rename_i s' hp
        obtain ⟨α, s⟩ := s
        have s2 := s.putH s1 h0 hjn hj h1 rv
        have hji : i ≠ j := fun z => by rw [z, hjn] at hs; cases hs
        have hl : j < ρ.length := (List.getElem?_eq_some_iff.mp hjn).1
        have hs2 : (ρ.set j (some (.gho d)))[i]? = some (some (.slf sd)) := by rw [List.getElem?_set_ne (Ne.symm hji)]; exact hs
        obtain ⟨c, ks, dx, vs, m1, m2, m3, m4, m5, m6, m7, s3⟩ := s2.mutS (dv := .gst j) (y := .ref p1) hs2 ⟨congrArg V.ref (if_pos rfl).symm, d, List.getElem?_set_self hl⟩ hp
        refine ⟨_, m5, Y.sa, Y.G.cm c, dx, fKeys ks vs, rfl, m7, k.K ▸ Y.G.cls c m2, k.K ▸ Y.G.noat c f m2 m1, by rw [fKeys_len m4]; omega, ?_⟩
        have Osa : O Y.sa := (SR.sa_of ⟨α, s⟩ hs).2
        refine q _ σ _ (Stp.trans (O1 := fun a => O a ∨ a = p1) (H1 := H1) ⟨fun b o _ e => s1 b o e, fun b z => z.elim .inl fun e => .inr (by rw [e]; exact h0)⟩ (Stp.own (.inl Osa))) ⟨_, s3⟩
      · exact q.elim
    · exact q.elim
  · exact q.elim
/-- self.f.append(e) -/
theorem ds_gapp (hN : X.N[i]? = some x) (ha : PD X Y a fa) (hv : Vis X.env.scope x := by first | exact Or.inl rfl | exact Or.inr (Or.inl rfl) | exact Or.inr (Or.inr rfl)) (hd : (x == ("__debug__" : Str)) = false := by decide) (hcd : (x == ("__classdict__" : Str)) = false := by decide)
    (hb : attributeBase (.Name x p) f X.env (eval (.Name x p) X.env) = eval (.Name x p) X.env := by rfl)
    (hbase : attributeBase (.Attribute (.Name x p) f p2) "append" X.env (eval (.Attribute (.Name x p) f p2) X.env) = eval (.Attribute (.Name x p) f p2) X.env := by rfl)
    (hfew : ((backTo cpos (starEach (a :: []) X.env)).all (fun x => !x.1) && (backToKw cpos (keywordEach [] X.env)).all (fun x => x.1.isSome)
      && decide ((a :: []).length + ([] : List Keyword).length + (if ([] : List Keyword).isEmpty then 0 else 1) < 30)) = true := by rfl)
    (hline : (apos.endLine == cpos.line) = true := by rfl) (hs : starEach (a :: []) X.env = (false, eval a X.env) :: starEach [] X.env := by rfl) (hplain : (backTo cpos (starEach [] X.env)).any (·.1) = false := by rfl)
    (hsw : swapsWith (.Call (.Attribute (.Attribute (.Name x p) f p2) "append" apos) [a] [] cpos) none pos.line X.env = pure false := by rfl) :
    PDS X Y (.Expr (.Call (.Attribute (.Attribute (.Name x p) f p2) "append" apos) [a] [] cpos) pos) (sGApp i f fa) := fun k => by
  refine impPS (ps_expr (pe_bm PySem.F.plainAttrs_list PySem.F.slot_list_append PySem.F.type_list_append mt_append (pe_fld (pe_var hN hv hd hcd) hb) (pa_cons (ha k) pa_nil hs) hbase hfew hline hs hplain) hsw) fun N σ H ⟨O, ρ, s, q⟩ => ?_
  unfold sGApp at q
  split at q
  · rename_i j l hj
    obtain ⟨α, s⟩ := s
    obtain ⟨sd, hsd, hf, hg⟩ := fldG_eq hj
    obtain ⟨c, dx, fs, v, e1, e2, hH, hc, hk, hl, rv⟩ := slf_fld s hsd hf
    obtain ⟨rfl, d', _⟩ := rv
    obtain ⟨rg, _⟩ := s.gho j _ hg
    obtain ⟨_, vs, e, hlst, rvs⟩ := rg
    cases e
    have Oj : O (α j) := (s.oeq _).mpr ⟨j, ⟨_, .inr (.inr hg)⟩, rfl⟩
    refine ⟨_, e1, Y.sa, Y.G.cm c, dx, fs, _, rfl, hH, k.K ▸ Y.G.cls c hc, k.K ▸ Y.G.noat c f hc hk, hl, .inl ⟨rfl, vs, SqL.of hlst⟩, exp_then ⟨α, s⟩ q fun d ea q v H1 s1 r1 => ?_⟩
    split at q
    · rename_i hlen
      have hl1 := s1 _ _ hlst
      refine ⟨α j, vs, v, rfl, rfl, hl1, by rw [lineD_eq, ← rvs.length]; exact hlen, ?_⟩
      have s' := (s.same s1).mutH (d' := .lst (l ++ [d])) (o := .lst (vs ++ [v])) hg fun _ _ => ⟨α j, _, rfl, upd_same, RepL.mono (sub_upd Oj) (fun _ z => .inl z) ((rvs.same s1).append (RepL.one r1))⟩
      exact q O σ _ ((Stp.same s1).trans (Stp.own Oj)) ⟨α, s'⟩
    · exact q.elim
  · exact q.elim
/-- self.f[k] = e -/
theorem ds_gput (hN : X.N[i]? = some x) (hk : PDw X Y b fb) (ha : PD X Y a fa) (hv : Vis X.env.scope x := by first | exact Or.inl rfl | exact Or.inr (Or.inl rfl) | exact Or.inr (Or.inr rfl)) (hd : (x == ("__debug__" : Str)) = false := by decide) (hcd : (x == ("__classdict__" : Str)) = false := by decide)
    (hb : attributeBase (.Name x p) f X.env (eval (.Name x p) X.env) = eval (.Name x p) X.env := by rfl)
    (hs : swapsWith a (some (.Subscript (.Attribute (.Name x p) f p2) b pos')) pos.line X.env = pure false := by rfl) : PDS X Y (.Assign [.Subscript (.Attribute (.Name x p) f p2) b pos'] a pos) (sGPut i f fb fa) := fun k => by
  refine impPS (ps_dput (hu_L k.rm) (pe_fld (pe_var hN hv hd hcd) hb) (hk k) (ha k) hs) fun N σ H ⟨O, ρ, s, q⟩ => ?_
  unfold sGPut at q
  refine exp_then s q fun d ea q v H1 s1 r1 => ?_
  split at q
  · rename_i j ks l hj
    have s0 := s.same s1
    obtain ⟨α, s⟩ := s0
    obtain ⟨sd, hsd, hf, hg⟩ := fldG_eq hj
    obtain ⟨c, dx, fs, v', e1, e2, hH, hc, hkf, hl, rv⟩ := slf_fld s hsd hf
    obtain ⟨rfl, d', _⟩ := rv
    obtain ⟨rg, _⟩ := s.gho j _ hg
    obtain ⟨_, vs, e, hdk, hlen, rvs⟩ := rg
    cases e
    have Oj : O (α j) := (s.oeq _).mpr ⟨j, ⟨_, .inr (.inr hg)⟩, rfl⟩
    refine ⟨_, e1, Y.sa, Y.G.cm c, dx, fs, _, rfl, hH, k.K ▸ Y.G.cls c hc, k.K ▸ Y.G.noat c f hc hkf, hl, expw_then ⟨α, s⟩ (SPost.fwd (Stp.same s1) q) fun dk ek q2 u H2 s2 r2 => ?_⟩
    cases dk with
    | str z =>
      simp only at q2
      split at q2
      · rename_i hz
        obtain rfl : u = .str z := r2
        have hl2 := s2 _ _ hdk
        refine ⟨α j, _, rfl, DPut.k (k := Sum.inr z) hl2 (by rw [len_sKeys hlen, lineD_eq]; exact hz), ?_⟩
        have s' := (s.same s2).mutH (d' := .dct (dPutK z ks) (dPutV z d ks l)) (o := .dK (putK (sKeys ks vs) (Sum.inr z) v)) hg fun _ _ =>
          ⟨α j, vPut z v ks vs, rfl, by rw [upd_same, putK_s hlen], vPut_len hlen, RepL.mono (sub_upd Oj) (fun _ z => .inl z) (rep_vPut (r1.same s2) hlen (rvs.same s2))⟩
        exact q2 O σ _ ((Stp.same s2).trans (Stp.own Oj)) ⟨α, s'⟩
      · exact q2.elim
    | _ => exact q2.elim
  · exact q.elim
/-- for x in a container that is only looked at (comprehensions) -/
theorem di_lst (ha : PDw X Y a fa) : PDIw X Y tg a (iLst fa) := fun k => by
  refine impPI (pi_list (ha k)) fun σ H Q h => ?_
  obtain ⟨O, ρ, s, q⟩ := h
  refine ⟨O, ρ, s, ?_⟩
  unfold iLst at q
  cases ea : fa ρ with
  | no => rw [ea] at q; exact q
  | ex z => rw [ea] at q; exact q
  | ok d =>
    rw [ea] at q
    simp only [R.bind_ok] at q
    intro v H1 s1 rv
    cases d with
    | lst l =>
      obtain ⟨p1, vs, rfl, hp, r⟩ := rv
      refine ⟨p1, rfl, ⟨vs, SqL.of hp⟩, ?_⟩
      rw [k.K]
      exact q _ H1 s1 (walkW_itl hp r)
    | _ => exact q.elim
end
end Tw

set_option maxHeartbeats 2000000
namespace Tw
open PySem PySem.Spec L2
open PyProof.Rows hiding St
def GL1 (G : Gc) (Z : Addr → Prop) (β0 β1 : Addr) (H : Hp) (d : D) (v : V) : Prop := match d with
  | .gst j => (j = 12 ∧ v = .ref β0) ∨ (j = 13 ∧ v = .ref β1)
  | d => Rep G Z H d v
def GL (G : Gc) (Z : Addr → Prop) (β0 β1 : Addr) (H : Hp) : List D → List V → Prop
  | [], vs => vs = []
  | d :: ds, vs => ∃ v r, vs = v :: r ∧ GL1 G Z β0 β1 H d v ∧ GL G Z β0 β1 H ds r
/-- the object at a, its two containers at β0, β1 -/
def GAt (G : Gc) (Z : Addr → Prop) (H : Hp) (a : Addr) (s g0 g1 : D) (β0 β1 : Addr) : Prop :=
  (a ≠ β0 ∧ a ≠ β1 ∧ β0 ≠ β1) ∧ (RepW G Z H g0 (.ref β0) ∧ RepW G Z H g1 (.ref β1)) ∧ ∃ c ks l dx vs, s = .obj c ks l ∧ H a = some (.ins (G.cm c) dx (fKeys ks vs)) ∧ (ks.length = vs.length ∧ OkO G c ks) ∧ GL G Z β0 β1 H l vs
/-- all but the object and its containers stand -/
def GFr (a β0 β1 : Addr) (H H' : Hp) : Prop := (∀ b o, b ≠ a → b ≠ β0 → b ≠ β1 → H b = some o → H' b = some o) ∧ ∀ b, H b ≠ none → H' b ≠ none
def Zg (Ze : Addr → Prop) (γ0 γ1 : Addr) (b : Addr) : Prop := Ze b ∨ b = γ0 ∨ b = γ1
def GPoX (G : Gc) (Ze : Addr → Prop) (a β0 β1 : Addr) (H : Hp) (Q : VK) (E : XK) : R (D × D × D × D) → Prop
  | .ok r => ∀ v H' γ0 γ1, GFr a β0 β1 H H' → (γ0 = β0 ∨ γ0 = β1 ∨ H γ0 = none) → (γ1 = β0 ∨ γ1 = β1 ∨ H γ1 = none) → (H' γ0 ≠ none ∧ H' γ1 ≠ none) → GAt G (Zg Ze γ0 γ1) H' a r.2.1 r.2.2.1 r.2.2.2 γ0 γ1 → Rep G (Zg Ze γ0 γ1) H' r.1 v → Q v H'
  | .ex e => ∀ c od H', GFr a β0 β1 H H' → ExRep G Ze H' e c od → E c od H'
  | .no => False
def dspG (G : Gc) (den : GD) : Sp := fun vs H Q E => ∃ Ze a s g0 g1 us ds β0 β1, vs = .ref a :: us ∧ (Ze a ∧ Ze β0 ∧ Ze β1) ∧ (∀ b, Ze b → H b ≠ none) ∧ GAt G Ze H a s g0 g1 β0 β1 ∧ RepL G Ze H ds us ∧ GPoX G Ze a β0 β1 H Q E (den s g0 g1 ds)
/-- such a method of the class c -/
def Gk (P : Program) (w : World) (K : PySem.W.Frag) (mg : Str → Option Value) (base : Heap) (G : Gc) (c : String) (m : Str) (den : GD) (j : Nat) : Prop :=
  ∃ f fd ps, FnOk P w K mg base (L2.CX P w) j f fd ps (dspG G den) ∧ Meth K (G.cm c) m f ∧ Binds K fd ps [] ∧ m ∉ fldOf c ∧ Cls K (G.cm c)
theorem GL_of {G : Gc} {Z : Addr → Prop} {α : Nat → Addr} {ρ : DEnv} {H : Hp} : ∀ {l : List D} {vs : List V}, l.all okG1 = true → RepGL G Z α ρ H l vs → GL G Z (α 12) (α 13) H l vs
  | [], vs, _, h => h
  | d :: l, vs, hk, h => by
    obtain ⟨v, r, e, h1, h2⟩ := h
    obtain ⟨k1, k2⟩ := Bool.and_eq_true_iff.mp (List.all_cons ▸ hk)
    refine ⟨v, r, e, ?_, GL_of k2 h2⟩
    cases d with
    | gst j =>
      obtain ⟨e, _⟩ := h1
      have k1 : (j == 12 || j == 13) = true := k1
      rcases Bool.or_eq_true_iff.mp k1 with q | q
      · obtain rfl := beq_iff_eq.mp q; exact .inl ⟨rfl, e⟩
      · obtain rfl := beq_iff_eq.mp q; exact .inr ⟨rfl, e⟩
    | _ => exact h1
theorem of_GL {G : Gc} {Z Z' : Addr → Prop} {α : Nat → Addr} {ρ : DEnv} {H : Hp} {β0 β1 : Addr} (z : ∀ a, Z' a → Z a) (e0 : α 12 = β0) (e1 : α 13 = β1) (h0 : ∃ d, ρ[(12 : Nat)]? = some (some (.gho d))) (h1 : ∃ d, ρ[(13 : Nat)]? = some (some (.gho d))) : ∀ {l : List D} {vs : List V}, GL G Z β0 β1 H l vs → RepGL G Z' α ρ H l vs
  | [], vs, h => h
  | d :: l, vs, h => by
    obtain ⟨v, r, e, k1, k2⟩ := h
    refine ⟨v, r, e, ?_, of_GL z e0 e1 h0 h1 k2⟩
    cases d with
    | gst j =>
      rcases k1 with ⟨rfl, q⟩ | ⟨rfl, q⟩
      · exact ⟨by rw [e0]; exact q, h0⟩
      · exact ⟨by rw [e1]; exact q, h1⟩
    | _ => exact Rep.weak z k1
theorem RepW.sub {G : Gc} {Z Z' : Addr → Prop} {H H' : Hp} {p : Addr} {d : D} (s : Sub Z H H') (z : ∀ a, Z' a → Z a ∨ H a = none) (hp : ∀ o, H p = some o → H' p = some o) (r : RepW G Z H d (.ref p)) : RepW G Z' H' d (.ref p) := by
  cases d with
  | lst l => obtain ⟨a, vs, e, t, r⟩ := r; cases e; exact ⟨_, vs, rfl, hp _ t, r.mono s z⟩
  | dct ks l => obtain ⟨a, vs, e, t, k, r⟩ := r; cases e; exact ⟨_, vs, rfl, hp _ t, k, r.mono s z⟩
  | obj c ks l => obtain ⟨a, dx, vs, e, t, k, r⟩ := r; cases e; exact ⟨_, dx, vs, rfl, hp _ t, k, r.mono s z⟩
  | _ => exact Rep.mono s z r
theorem map_none_get {ρ : DEnv} {k : Nat} {x : Slot} (h : (ρ.map fun _ => (none : Option Slot))[k]? = some (some x)) : False := by
  rw [List.getElem?_map] at h
  obtain ⟨_, _, e⟩ := Option.map_eq_some_iff.mp h
  cases e
theorem SR.wiped {Y : Cy} {O : Addr → Prop} {ρ : DEnv} {σ : L2.St} {H H' : Hp} {α : Nat → Addr} (s : SRa Y O α ρ σ H) (hz : ∀ b, H b ≠ none → H' b ≠ none) : SR Y (fun _ => False) (ρ.map fun _ => none) σ H' :=
  ⟨α, ⟨⟨s.len.1, by rw [List.length_map]; exact s.len.2⟩, fun i d e => (map_none_get e).elim, fun i d e => (map_none_get e).elim, fun i d e => (map_none_get e).elim, fun i d e => (map_none_get e).elim,
    fun i j ⟨d, h⟩ => by rcases h with h | h | h <;> exact (map_none_get h).elim, fun a => ⟨False.elim, fun ⟨i, ⟨d, h⟩, _⟩ => by rcases h with h | h | h <;> exact (map_none_get h).elim⟩, fun a z => hz a (s.zt a z), fun a h => h.elim, PtrOk.no fun i x e _ => (map_none_get e).elim⟩⟩
section
variable {Y : Cy} {O : Addr → Prop} {ρ : DEnv} {σ : L2.St} {H : Hp} {α : Nat → Addr} {i : Nat} {s g0 g1 : D}
theorem gcall_of {N : Ends} {den : GD} {ds : List D} {us : List V} (sr : SRa Y O α ρ σ H) (hs : ρ[i]? = some (some (.slf s))) (h12 : ρ[(12 : Nat)]? = some (some (.gho g0))) (h13 : ρ[(13 : Nat)]? = some (some (.gho g1))) (hok : okG s = true) (r : RepL Y.G (Zo Y.Ze O) H ds us)
    (q : SPost Y O H N (match den s g0 g1 ds with
      | .ok r => .ok (.nx (((ρ.set 12 (some (.gho r.2.2.1))).set 13 (some (.gho r.2.2.2))).set i (some (.slf r.2.1))))
      | .ex e => .ok (.xx e (ρ.map fun _ => none))
      | .no => .no)) : dspG Y.G den (.ref Y.sa :: us) H (fun _ H' => N.nx σ H') (WE Y.E σ) := by
  obtain ⟨ei, ea, c, ks, l, dx, vs, rfl, hH, hlen, rl⟩ := sr.slf i s hs
  rw [ea] at ei hH
  have oi : isOwn ρ i := ⟨_, .inr (.inl hs)⟩
  have o12 : isOwn ρ 12 := ⟨_, .inr (.inr h12)⟩
  have o13 : isOwn ρ 13 := ⟨_, .inr (.inr h13)⟩
  have i12 : i ≠ 12 := fun z => by rw [z, h12] at hs; cases hs
  have i13 : i ≠ 13 := fun z => by rw [z, h13] at hs; cases hs
  have Oa : O Y.sa := (sr.oeq _).mpr ⟨i, oi, ea⟩
  have O0 : O (α 12) := (sr.oeq _).mpr ⟨12, o12, rfl⟩
  have O1 : O (α 13) := (sr.oeq _).mpr ⟨13, o13, rfl⟩
  have d0 : Y.sa ≠ α 12 := fun z => i12 (sr.inj i 12 oi o12 (ea.trans z))
  have d1 : Y.sa ≠ α 13 := fun z => i13 (sr.inj i 13 oi o13 (ea.trans z))
  have d2 : α 12 ≠ α 13 := fun z => by have := sr.inj 12 13 o12 o13 z; cases this
  have zt : ∀ b, Zo Y.Ze O b → H b ≠ none := fun b z => z.elim (sr.zt b) (sr.ot b)
  obtain ⟨r0, n0⟩ := sr.gho 12 g0 h12
  obtain ⟨r1, n1⟩ := sr.gho 13 g1 h13
  refine ⟨Zo Y.Ze O, Y.sa, _, g0, g1, us, ds, α 12, α 13, rfl, ⟨.inr Oa, .inr O0, .inr O1⟩, zt, ⟨⟨d0, d1, d2⟩, ⟨r0, r1⟩, c, ks, l, dx, vs, rfl, hH, hlen, GL_of hok rl⟩, r, ?_⟩
  cases ed : den (.obj c ks l) g0 g1 ds with
  | no => rw [ed] at q; exact q.elim
  | ex e =>
    rw [ed] at q
    intro cc od H' fr xr
    refine q (fun _ => False) σ H' cc od ⟨fun b o n e => fr.1 b o (fun z => n (z ▸ Oa)) (fun z => n (z ▸ O0)) (fun z => n (z ▸ O1)) e, fun b z => z.elim⟩ (SR.wiped sr fr.2) ?_
    exact ExRep.weak (fun b z => z.elim .inl False.elim) xr
  | ok rr =>
    rw [ed] at q
    obtain ⟨d', s', a', b'⟩ := rr
    intro v H' γ0 γ1 fr w0 w1 nn ga rv
    obtain ⟨⟨e0, e1, e2⟩, ⟨ra, rb⟩, c', ks', l', dx', vs', es, hH', hlen', gl⟩ := ga
    simp only at es ra rb
    subst es
    have zz : ∀ b, Zo Y.Ze (fun b => (O b ∧ b ≠ α 12 ∧ b ≠ α 13) ∨ b = γ0 ∨ b = γ1) b → Zo Y.Ze O b ∨ H b = none := fun b z => by
      rcases z with z | z | rfl | rfl
      · exact .inl (.inl z)
      · exact .inl (.inr z.1)
      · rcases w0 with h | h | h
        · exact .inl (.inr (h ▸ O0))
        · exact .inl (.inr (h ▸ O1))
        · exact .inr h
      · rcases w1 with h | h | h
        · exact .inl (.inr (h ▸ O0))
        · exact .inl (.inr (h ▸ O1))
        · exact .inr h
    have zg : ∀ b, Zo Y.Ze (fun b => (O b ∧ b ≠ α 12 ∧ b ≠ α 13) ∨ b = γ0 ∨ b = γ1) b → Zg (Zo Y.Ze O) γ0 γ1 b := fun b z => by
      rcases z with z | z | z | z
      · exact .inl (.inl z)
      · exact .inl (.inr z.1)
      · exact .inr (.inl z)
      · exact .inr (.inr z)
    have sb : Sub (Zo Y.Ze O) H H' := fun b o n e => fr.1 b o (fun z => n (.inr (z ▸ Oa))) (fun z => n (.inr (z ▸ O0))) (fun z => n (.inr (z ▸ O1))) e
    have l12 : 12 < ρ.length := (List.getElem?_eq_some_iff.mp h12).1
    have l13 : 13 < ρ.length := (List.getElem?_eq_some_iff.mp h13).1
    have li : i < ρ.length := (List.getElem?_eq_some_iff.mp hs).1
    generalize hρ : (((ρ.set 12 (some (.gho a'))).set 13 (some (.gho b'))).set i (some (.slf (.obj c' ks' l')))) = ρ'
    have gi : ρ'[i]? = some (some (.slf (.obj c' ks' l'))) := by rw [← hρ]; exact List.getElem?_set_self (by rw [List.length_set, List.length_set]; exact li)
    have g12 : ρ'[(12 : Nat)]? = some (some (.gho a')) := by rw [← hρ, List.getElem?_set_ne i12, List.getElem?_set_ne (by decide), List.getElem?_set_self l12]
    have g13 : ρ'[(13 : Nat)]? = some (some (.gho b')) := by rw [← hρ, List.getElem?_set_ne i13, List.getElem?_set_self (by rw [List.length_set]; exact l13)]
    have go : ∀ k, k ≠ i → k ≠ 12 → k ≠ 13 → ρ'[k]? = ρ[k]? := fun k h1 h2 h3 => by rw [← hρ, List.getElem?_set_ne (Ne.symm h1), List.getElem?_set_ne (Ne.symm h3), List.getElem?_set_ne (Ne.symm h2)]
    have cs : ∀ k, k = i ∨ k = 12 ∨ k = 13 ∨ (k ≠ i ∧ k ≠ 12 ∧ k ≠ 13) := fun k => by
      by_cases h1 : k = i
      · exact .inl h1
      · by_cases h2 : k = 12
        · exact .inr (.inl h2)
        · by_cases h3 : k = 13
          · exact .inr (.inr (.inl h3))
          · exact .inr (.inr (.inr ⟨h1, h2, h3⟩))
    have ow : ∀ k, isOwn ρ' k ↔ isOwn ρ k := fun k => by
      rcases cs k with rfl | rfl | rfl | ⟨h1, h2, h3⟩
      · exact ⟨fun _ => oi, fun _ => ⟨_, .inr (.inl gi)⟩⟩
      · exact ⟨fun _ => o12, fun _ => ⟨_, .inr (.inr g12)⟩⟩
      · exact ⟨fun _ => o13, fun _ => ⟨_, .inr (.inr g13)⟩⟩
      · unfold isOwn
        rw [go k h1 h2 h3]
    have af : ∀ k, isOwn ρ k → k ≠ 12 → k ≠ 13 → α k ≠ γ0 ∧ α k ≠ γ1 := fun k hk h2 h3 => by
      have nk : H (α k) ≠ none := sr.ot _ ((sr.oeq _).mpr ⟨k, hk, rfl⟩)
      refine ⟨fun z => ?_, fun z => ?_⟩
      · rcases w0 with h | h | h
        · exact h2 (sr.inj k 12 hk o12 (z.trans h))
        · exact h3 (sr.inj k 13 hk o13 (z.trans h))
        · rw [← z] at h; exact nk h
      · rcases w1 with h | h | h
        · exact h2 (sr.inj k 12 hk o12 (z.trans h))
        · exact h3 (sr.inj k 13 hk o13 (z.trans h))
        · rw [← z] at h; exact nk h
    have a12 : (fun k => if k = 12 then γ0 else if k = 13 then γ1 else α k) 12 = γ0 := rfl
    have a13 : (fun k => if k = 12 then γ0 else if k = 13 then γ1 else α k) 13 = γ1 := rfl
    have ao : ∀ k, k ≠ 12 → k ≠ 13 → (if k = 12 then γ0 else if k = 13 then γ1 else α k) = α k := fun k h2 h3 => by rw [if_neg h2, if_neg h3]
    have stay : ∀ k, isOwn ρ k → k ≠ i → k ≠ 12 → k ≠ 13 → ∀ o, H (α k) = some o → H' (α k) = some o := fun k hk h1 h2 h3 o e =>
      fr.1 _ o (fun z => h1 (sr.inj k i hk oi (z.trans ea.symm))) (fun z => h2 (sr.inj k 12 hk o12 z)) (fun z => h3 (sr.inj k 13 hk o13 z)) e
    refine q (fun b => (O b ∧ b ≠ α 12 ∧ b ≠ α 13) ∨ b = γ0 ∨ b = γ1) σ H' ⟨fun b o n e => fr.1 b o (fun z => n (z ▸ Oa)) (fun z => n (z ▸ O0)) (fun z => n (z ▸ O1)) e, fun b z => by
      rcases z with z | rfl | rfl
      · exact .inl z.1
      · rcases w0 with h | h | h
        · exact .inl (h ▸ O0)
        · exact .inl (h ▸ O1)
        · exact .inr h
      · rcases w1 with h | h | h
        · exact .inl (h ▸ O0)
        · exact .inl (h ▸ O1)
        · exact .inr h⟩ ⟨fun k => if k = 12 then γ0 else if k = 13 then γ1 else α k, ?_⟩
    simp only [hρ]
    refine ⟨⟨sr.len.1, by rw [← hρ, List.length_set, List.length_set, List.length_set]; exact sr.len.2⟩, fun k d e => ?_, fun k d e => ?_, fun k d e => ?_, fun k d e => ?_, fun k m hk hm e => ?_, fun b => ?_, fun b z => fr.2 b (sr.zt b z), fun b z => ?_, sr.ptr.to (fun _ _ r => r.mono sb zz) fun k x e hx => ?_⟩
    · rcases cs k with rfl | rfl | rfl | ⟨h1, h2, h3⟩
      · rw [gi] at e; cases e
      · rw [g12] at e; cases e
      · rw [g13] at e; cases e
      · rw [go k h1 h2 h3] at e
        obtain ⟨v, e1, rv⟩ := sr.val k d e
        exact ⟨v, e1, rv.mono sb zz⟩
    · rcases cs k with rfl | rfl | rfl | ⟨h1, h2, h3⟩
      · rw [gi] at e; cases e
      · rw [g12] at e; cases e
      · rw [g13] at e; cases e
      · rw [go k h1 h2 h3] at e
        obtain ⟨e1, n, rv⟩ := sr.own k d e
        rw [ao k h2 h3]
        exact ⟨e1, n, RepW.sub sb zz (stay k ⟨d, .inl e⟩ h1 h2 h3) rv⟩
    · rcases cs k with rfl | rfl | rfl | ⟨h1, h2, h3⟩
      · rw [gi] at e
        cases e
        rw [ao k i12 i13]
        refine ⟨by rw [ea]; exact ei, ea, c', ks', l', dx', vs', rfl, by rw [ea]; exact hH', hlen', of_GL zg a12 a13 ⟨_, g12⟩ ⟨_, g13⟩ gl⟩
      · rw [g12] at e; cases e
      · rw [g13] at e; cases e
      · rw [go k h1 h2 h3] at e
        obtain ⟨_, e2, _⟩ := sr.slf k d e
        exact absurd (sr.inj k i ⟨d, .inr (.inl e)⟩ oi (e2.trans ea.symm)) h1
    · rcases cs k with rfl | rfl | rfl | ⟨h1, h2, h3⟩
      · rw [gi] at e; cases e
      · rw [g12] at e
        cases e
        exact ⟨RepW.weak zg ra, n0⟩
      · rw [g13] at e
        cases e
        exact ⟨RepW.weak zg rb, n1⟩
      · rw [go k h1 h2 h3] at e
        obtain ⟨rv, n⟩ := sr.gho k d e
        rw [ao k h2 h3]
        exact ⟨RepW.sub sb zz (stay k ⟨d, .inr (.inr e)⟩ h1 h2 h3) rv, n⟩
    · have hk := (ow k).mp hk
      have hm := (ow m).mp hm
      have e : (if k = 12 then γ0 else if k = 13 then γ1 else α k) = if m = 12 then γ0 else if m = 13 then γ1 else α m := e
      by_cases k2 : k = 12
      · subst k2
        by_cases m2 : m = 12
        · exact m2.symm
        · by_cases m3 : m = 13
          · subst m3; exact absurd e e2
          · rw [ao m m2 m3] at e; exact absurd e.symm (af m hm m2 m3).1
      · by_cases k3 : k = 13
        · subst k3
          by_cases m2 : m = 12
          · subst m2; exact absurd e.symm e2
          · by_cases m3 : m = 13
            · exact m3.symm
            · rw [ao m m2 m3] at e; exact absurd e.symm (af m hm m2 m3).2
        · rw [ao k k2 k3] at e
          by_cases m2 : m = 12
          · subst m2; exact absurd e (af k hk k2 k3).1
          · by_cases m3 : m = 13
            · subst m3; exact absurd e (af k hk k2 k3).2
            · rw [ao m m2 m3] at e; exact sr.inj k m hk hm e
    · refine ⟨fun h => ?_, fun ⟨k, hk, e⟩ => ?_⟩
      · rcases h with ⟨h, n12, n13⟩ | rfl | rfl
        · obtain ⟨k, hk, e⟩ := (sr.oeq b).mp h
          exact ⟨k, (ow k).mpr hk, by rw [ao k (fun z => n12 (by rw [← e, z])) (fun z => n13 (by rw [← e, z]))]; exact e⟩
        · exact ⟨12, (ow 12).mpr o12, rfl⟩
        · exact ⟨13, (ow 13).mpr o13, rfl⟩
      · have hk := (ow k).mp hk
        have e : (if k = 12 then γ0 else if k = 13 then γ1 else α k) = b := e
        by_cases k2 : k = 12
        · subst k2; exact .inr (.inl e.symm)
        · by_cases k3 : k = 13
          · subst k3; exact .inr (.inr e.symm)
          · rw [ao k k2 k3] at e
            exact .inl ⟨(sr.oeq b).mpr ⟨k, hk, e⟩, fun z => k2 (sr.inj k 12 hk o12 (e.trans z)), fun z => k3 (sr.inj k 13 hk o13 (e.trans z))⟩
    · rcases z with z | rfl | rfl
      · exact fr.2 b (sr.ot b z.1)
      · exact nn.1
      · exact nn.2
    · rcases cs k with rfl | rfl | rfl | ⟨h1, h2, h3⟩
      · rw [gi] at e; rcases hx with rfl | ⟨_, rfl⟩ <;> cases e
      · rw [g12] at e; rcases hx with rfl | ⟨_, rfl⟩ <;> cases e
      · rw [g13] at e; rcases hx with rfl | ⟨_, rfl⟩ <;> cases e
      · rw [go k h1 h2 h3] at e
        exact ⟨e, rfl⟩
end
end Tw

set_option maxHeartbeats 2000000
namespace Tw
open PySem PySem.Spec L2
open PyProof.Rows hiding St
section
variable {X : Cx} {Y : Cy} {a e : Expr} {es : List Expr} {fs : DA} {pos p apos cpos : Pos} {x m : Str} {i j : Nat} {c : String} {den : GD}
theorem ds_gcall {pl : Sem Bool} (M : Gk X.prog X.w X.K X.mg X.base Y.G c m den j) (hj : j ≤ Y.lv) (hN : X.N[i]? = some x) (ha : PDA X Y (e :: es) fs) (hv : Vis X.env.scope x := by first | exact Or.inl rfl | exact Or.inr (Or.inl rfl) | exact Or.inr (Or.inr rfl))
    (hd : (x == ("__debug__" : Str)) = false := by decide) (hcd : (x == ("__classdict__" : Str)) = false := by decide)
    (hst : starEach (e :: es) X.env = (false, eval e X.env) :: starEach es X.env := by rfl) (hpl : (backTo cpos (starEach es X.env)).any (·.1) = false := by rfl)
    (ht : eval (.Call (.Attribute (.Name x p) m apos) (e :: es) [] cpos) X.env = (do
      let ov ← eval (.Name x p) X.env
      standAt apos.atName
      let (f, first) ← holding [ov] (getMethod ov m pl)
      callWith cpos f first (backTo cpos (starEach (e :: es) X.env)) (backToKw cpos (keywordEach [] X.env))) := by rfl)
    (hsw : swapsWith (.Call (.Attribute (.Name x p) m apos) (e :: es) [] cpos) none pos.line X.env = pure false := by rfl) (hca : Y.ca = true := by rfl) :
    PDS X Y (.Expr (.Call (.Attribute (.Name x p) m apos) (e :: es) [] cpos) pos) (sGCallC c i den fs) := fun k => by
  obtain ⟨f, fd, ps, F, hm, hb, hn, hcl⟩ := M
  refine impPS (ps_expr (pe_methD (E := WE Y.E) (pe_var hN hv hd hcd) hcl hm F ((k.room hca).mono hj) hb (fun σ => passAt k.tk σ) (ha k) hst hpl ht) hsw) fun N σ H ⟨O, ρ, s, q⟩ => ?_
  unfold sGCallC at q
  split at q
  rotate_left
  · exact q.elim
  rename_i c' ks' l' hs
  split at q
  rotate_left
  · exact q.elim
  rename_i hc'
  subst hc'
  unfold sGCall at q
  obtain ⟨e1, Oa⟩ := s.sa_of hs
  have s0 := s
  obtain ⟨α, s⟩ := s
  obtain ⟨_, ea, c2, ks, l, dx, vs, es', hH, ⟨hl, hcc, hf⟩, rl⟩ := s.slf i _ hs
  cases es'
  rw [ea] at hH
  refine ⟨.ref Y.sa, e1, Y.sa, dx, fKeys ks' vs, rfl, hH, no_look fun z => hn (hf m z), ⟨O, ρ, s0, ?_⟩⟩
  cases ef : fs ρ with
  | no => rw [ef] at q; exact q.elim
  | ex z => rw [ef] at q; exact fun c od H1 s1 xr => q O σ H1 c od (Stp.same s1) (s0.same s1) xr
  | ok ds =>
    rw [ef] at q
    simp only [R.st_ok] at q
    intro us H1 s1 rs
    split at q
    rotate_left
    · exact q.elim
    rename_i sd hsd
    rw [hs] at hsd
    cases hsd
    split at q
    rotate_left
    · exact q.elim
    rename_i g0 h12
    split at q
    rotate_left
    · exact q.elim
    rename_i g1 h13
    split at q
    rotate_left
    · exact q.elim
    rename_i hok
    exact gcall_of (s.same s1) hs h12 h13 hok rs (SPost.fwd (Stp.same s1) q)
end
/-- the start of a method that is handed the object with its containers -/
def startG (n : Nat) (s g0 g1 : D) (ds : List D) : DEnv := (some (.slf s) :: envD (n - 1) ds) ++ (List.replicate (12 - n) none ++ [some (.gho g0), some (.gho g1)])
theorem startG_get {n : Nat} {s g0 g1 : D} {ds : List D} (hn : 1 ≤ n ∧ n ≤ 12) (hd : ds.length + 1 ≤ n) {k : Nat} {x : Option Slot} (h : (startG n s g0 g1 ds)[k]? = some x) :
    (k = 0 ∧ x = some (.slf s)) ∨ (∃ d, k ≠ 0 ∧ ds[k - 1]? = some d ∧ x = some (.val d)) ∨ x = none ∨ (k = 12 ∧ x = some (.gho g0)) ∨ (k = 13 ∧ x = some (.gho g1)) := by
  unfold startG at h
  have hl : (some (Slot.slf s) :: envD (n - 1) ds).length = n := by rw [List.length_cons, envD_len (by omega)]; omega
  by_cases hk : k < n
  · rw [List.getElem?_append_left (by omega)] at h
    cases k with
    | zero => exact .inl ⟨rfl, (Option.some.inj h).symm⟩
    | succ k =>
      rcases envD_get (i := k) (by simpa using h) with ⟨d, hd, e⟩ | e
      · exact .inr (.inl ⟨d, by omega, by simpa using hd, e⟩)
      · exact .inr (.inr (.inl e))
  · rw [List.getElem?_append_right (by omega), hl] at h
    by_cases hk2 : k < 12
    · rw [List.getElem?_append_left (by rw [List.length_replicate]; omega), List.getElem?_replicate] at h
      split at h
      · exact .inr (.inr (.inl (Option.some.inj h).symm))
      · cases h
    · rw [List.getElem?_append_right (by rw [List.length_replicate]; omega), List.length_replicate] at h
      have e : k - n - (12 - n) = k - 12 := by omega
      rw [e] at h
      by_cases h12 : k = 12
      · subst h12; exact .inr (.inr (.inr (.inl ⟨rfl, (Option.some.inj h).symm⟩)))
      · by_cases h13 : k = 13
        · subst h13; exact .inr (.inr (.inr (.inr ⟨rfl, (Option.some.inj h).symm⟩)))
        · exfalso
          obtain ⟨q, hq⟩ : ∃ q, k - 12 = q + 2 := ⟨k - 14, by omega⟩
          rw [hq] at h
          simp at h
theorem startG_at {n : Nat} {s g0 g1 : D} {ds : List D} (hn : 1 ≤ n ∧ n ≤ 12) (hd : ds.length + 1 ≤ n) : (startG n s g0 g1 ds).length = 14 ∧ (startG n s g0 g1 ds)[(0 : Nat)]? = some (some (.slf s)) ∧ (startG n s g0 g1 ds)[(12 : Nat)]? = some (some (.gho g0)) ∧ (startG n s g0 g1 ds)[(13 : Nat)]? = some (some (.gho g1)) := by
  have hl : (some (Slot.slf s) :: envD (n - 1) ds).length = n := by rw [List.length_cons, envD_len (by omega)]; omega
  unfold startG
  refine ⟨by rw [List.length_append, hl, List.length_append, List.length_replicate]; show n + (12 - n + 2) = 14; omega, rfl, ?_, ?_⟩
  · rw [List.getElem?_append_right (by omega), hl, List.getElem?_append_right (by rw [List.length_replicate]; omega), List.length_replicate]
    rw [show 12 - n - (12 - n) = 0 by omega]
    rfl
  · rw [List.getElem?_append_right (by omega), hl, List.getElem?_append_right (by rw [List.length_replicate]; omega), List.length_replicate]
    rw [show 13 - n - (12 - n) = 1 by omega]
    rfl
theorem SR.startG {Y : Cy} {N : List Str} {s g0 g1 : D} {ds : List D} {vs : List V} {H : Hp} {β0 β1 : Addr} (hn : Y.n = N.length) (h12 : 1 ≤ N.length ∧ N.length ≤ 12) (hl : ds.length + 1 ≤ N.length) (zt : ∀ a, Y.Ze a → H a ≠ none) (ga : GAt Y.G Y.Ze H Y.sa s g0 g1 β0 β1) (hz : Y.Ze Y.sa ∧ Y.Ze β0 ∧ Y.Ze β1)
    (r : RepL Y.G Y.Ze H ds vs) : SR Y (fun a => a = Y.sa ∨ a = β0 ∨ a = β1) (Tw.startG N.length s g0 g1 ds) (L2.start N (.ref Y.sa :: vs)) H := by
  obtain ⟨⟨n0, n1, n2⟩, ⟨r0, r1⟩, c, ks, l, dx, us, e1, e2, e3, e4⟩ := ga
  obtain ⟨len, k0, k12, k13⟩ := startG_at (s := s) (g0 := g0) (g1 := g1) h12 hl
  have on : ∀ k, isOwn (Tw.startG N.length s g0 g1 ds) k ↔ (k = 0 ∨ k = 12 ∨ k = 13) := fun k => by
    refine ⟨fun ⟨d, h⟩ => ?_, fun h => ?_⟩
    · rcases h with h | h | h
      all_goals
        rcases startG_get h12 hl h with ⟨e, q⟩ | ⟨d', _, _, q⟩ | q | ⟨e, q⟩ | ⟨e, q⟩
        all_goals first | (cases q; done) | exact .inl e | exact .inr (.inl e) | exact .inr (.inr e)
    · rcases h with rfl | rfl | rfl
      · exact ⟨s, .inr (.inl k0)⟩
      · exact ⟨g0, .inr (.inr k12)⟩
      · exact ⟨g1, .inr (.inr k13)⟩
  have z : ∀ a, Zo Y.Ze (fun a => a = Y.sa ∨ a = β0 ∨ a = β1) a → Y.Ze a := fun a z => by
    rcases z with z | rfl | rfl | rfl
    · exact z
    · exact hz.1
    · exact hz.2.1
    · exact hz.2.2
  refine ⟨fun k => if k = 12 then β0 else if k = 13 then β1 else Y.sa, ⟨by rw [start_len (by rw [List.length_cons, ← r.length]; exact hl), hn], by rw [len, hn]; omega⟩, fun k d e => ?_, fun k d e => ?_, fun k d e => ?_, fun k d e => ?_, fun k m hk hm e => ?_, fun a => ?_, zt, fun a h => ?_, PtrOk.no fun k x e hx => by
    rcases startG_get h12 hl e with ⟨ek, q⟩ | ⟨d', _, _, q⟩ | q | ⟨ek, q⟩ | ⟨ek, q⟩ <;> rcases hx with rfl | ⟨_, rfl⟩ <;> cases q⟩
  · rcases startG_get h12 hl e with ⟨ek, q⟩ | ⟨d', k0', hd, q⟩ | q | ⟨ek, q⟩ | ⟨ek, q⟩
    · cases q
    · cases q
      obtain ⟨v, hv, rv⟩ := r.get hd
      obtain ⟨k', rfl⟩ : ∃ k', k = k' + 1 := ⟨k - 1, by omega⟩
      exact ⟨v, start_get (by simpa using hv), rv.weak z⟩
    · cases q
    · cases q
    · cases q
  · rcases startG_get h12 hl e with ⟨ek, q⟩ | ⟨d', k0', hd, q⟩ | q | ⟨ek, q⟩ | ⟨ek, q⟩ <;> cases q
  · rcases startG_get h12 hl e with ⟨ek, q⟩ | ⟨d', k0', hd, q⟩ | q | ⟨ek, q⟩ | ⟨ek, q⟩
    · cases q
      subst ek
      refine ⟨start_get rfl, rfl, c, ks, l, dx, us, e1, e2, e3, of_GL z rfl rfl ⟨_, k12⟩ ⟨_, k13⟩ e4⟩
    all_goals cases q
  · rcases startG_get h12 hl e with ⟨ek, q⟩ | ⟨d', k0', hd, q⟩ | q | ⟨ek, q⟩ | ⟨ek, q⟩
    · cases q
    · cases q
    · cases q
    · cases q
      subst ek
      exact ⟨RepW.weak z r0, by rw [hn]; exact h12.2⟩
    · cases q
      subst ek
      exact ⟨RepW.weak z r1, by rw [hn]; omega⟩
  · have e : (if k = 12 then β0 else if k = 13 then β1 else Y.sa) = if m = 12 then β0 else if m = 13 then β1 else Y.sa := e
    rcases (on k).mp hk with rfl | rfl | rfl <;> rcases (on m).mp hm with rfl | rfl | rfl
    · rfl
    · exact absurd e n0
    · exact absurd e n1
    · exact absurd e.symm n0
    · rfl
    · exact absurd e n2
    · exact absurd e.symm n1
    · exact absurd e.symm n2
    · rfl
  · refine ⟨fun h => ?_, fun ⟨k, hk, e⟩ => ?_⟩
    · rcases h with rfl | rfl | rfl
      · exact ⟨0, (on 0).mpr (.inl rfl), rfl⟩
      · exact ⟨12, (on 12).mpr (.inr (.inl rfl)), rfl⟩
      · exact ⟨13, (on 13).mpr (.inr (.inr rfl)), rfl⟩
    · have e : (if k = 12 then β0 else if k = 13 then β1 else Y.sa) = a := e
      rcases (on k).mp hk with rfl | rfl | rfl
      · exact .inl e.symm
      · exact .inr (.inl e.symm)
      · exact .inr (.inr e.symm)
  · rcases h with rfl | rfl | rfl
    · exact zt _ hz.1
    · exact zt _ hz.2.1
    · exact zt _ hz.2.2
theorem outG_ok {ρ : DEnv} {d : D} {r : D × D × D × D} (h : outG ρ d = .ok r) : r.1 = d ∧ ρ[(0 : Nat)]? = some (some (.slf r.2.1)) ∧ ρ[(12 : Nat)]? = some (some (.gho r.2.2.1)) ∧ ρ[(13 : Nat)]? = some (some (.gho r.2.2.2)) ∧ okG r.2.1 = true := by
  unfold outG at h
  split at h
  rotate_left
  · cases h
  rename_i s hs
  split at h
  rotate_left
  · cases h
  rename_i a ha
  split at h
  rotate_left
  · cases h
  rename_i b hb
  split at h
  rotate_left
  · cases h
  rename_i hok
  cases h
  exact ⟨rfl, hs, ha, hb, hok⟩
theorem outG_no {ρ : DEnv} {d : D} {e : Ex} (h : outG ρ d = .ex e) : False := by
  unfold outG at h
  split at h
  rotate_left
  · cases h
  split at h
  rotate_left
  · cases h
  split at h
  rotate_left
  · cases h
  split at h <;> cases h
section
variable {P : Program} {w : World} {K : PySem.W.Frag} {mg : Str → Option Value} {base : Heap} {x qual : Str} {params : Arguments} {body : List Stmt} {scope : Scope} {dvs : List V} {kws : List (Str × V)} {f : Addr} {fd : FuncData} {N ps : List Str} {k : Nat} {G : Gc} {b : DS}
/-- where the state's own addresses lie at such a def's end -/
theorem fin_GAt {Y : Cy} {O' : Addr → Prop} {ρ : DEnv} {σ' : L2.St} {H' : Hp} {d : D} {r : D × D × D × D} (s' : SR Y O' ρ σ' H') (h : outG ρ d = .ok r) : ∃ γ0 γ1, O' Y.sa ∧ O' γ0 ∧ O' γ1 ∧ (H' γ0 ≠ none ∧ H' γ1 ≠ none) ∧ GAt Y.G (Zo Y.Ze O') H' Y.sa r.2.1 r.2.2.1 r.2.2.2 γ0 γ1 := by
  obtain ⟨_, h0, h12, h13, hok⟩ := outG_ok h
  obtain ⟨α, s⟩ := s'
  obtain ⟨_, ea, c, ks, l, dx, vs, es, hH, hlen, rl⟩ := s.slf 0 _ h0
  have o0 : isOwn ρ 0 := ⟨_, .inr (.inl h0)⟩
  have o12 : isOwn ρ 12 := ⟨_, .inr (.inr h12)⟩
  have o13 : isOwn ρ 13 := ⟨_, .inr (.inr h13)⟩
  have Oa : O' Y.sa := (s.oeq _).mpr ⟨0, o0, ea⟩
  have O0 : O' (α 12) := (s.oeq _).mpr ⟨12, o12, rfl⟩
  have O1 : O' (α 13) := (s.oeq _).mpr ⟨13, o13, rfl⟩
  rw [ea] at hH
  refine ⟨α 12, α 13, Oa, O0, O1, ⟨s.ot _ O0, s.ot _ O1⟩, ⟨fun z => ?_, fun z => ?_, fun z => ?_⟩, ⟨(s.gho 12 _ h12).1, (s.gho 13 _ h13).1⟩, c, ks, l, dx, vs, es, hH, hlen, GL_of (by rw [es] at hok; exact hok) rl⟩
  · cases s.inj 0 12 o0 o12 (ea.trans z)
  · cases s.inj 0 13 o0 o13 (ea.trans z)
  · cases s.inj 12 13 o12 o13 z
theorem GL.weak {G : Gc} {Z Z' : Addr → Prop} {H : Hp} {β0 β1 : Addr} (z : ∀ a, Z' a → Z a) : ∀ {l : List D} {vs : List V}, GL G Z β0 β1 H l vs → GL G Z' β0 β1 H l vs
  | [], vs, h => h
  | d :: l, vs, h => by
    obtain ⟨v, r, e, k1, k2⟩ := h
    refine ⟨v, r, e, ?_, GL.weak z k2⟩
    cases d with
    | gst j => exact k1
    | _ => exact Rep.weak z k1
theorem GAt.weak {G : Gc} {Z Z' : Addr → Prop} {H : Hp} {a : Addr} {s g0 g1 : D} {β0 β1 : Addr} (z : ∀ a, Z' a → Z a) (h : GAt G Z H a s g0 g1 β0 β1) : GAt G Z' H a s g0 g1 β0 β1 := by
  obtain ⟨n, ⟨r0, r1⟩, c, ks, l, dx, us, e1, e2, e3, e4⟩ := h
  exact ⟨n, ⟨RepW.weak z r0, RepW.weak z r1⟩, c, ks, l, dx, us, e1, e2, e3, GL.weak z e4⟩
theorem fn_initG (F : FunD K x qual params body scope dvs kws f fd) (hK : G.K = K) (S : FnScope N ps scope) (hl : ps.length ≤ N.length)
    (hb : ∀ (cdv : Value) (A : Around) (outer : List Env) (s : Shared) (H : Hp) (E : XK) (Ze : Addr → Prop) (sa : Addr), PDSs (cxOf (L2.CX P w) P w K mg base N qual scope f cdv A outer s H E) (cyOf G Ze sa E k N) body b) :
    FnOk P w K mg base (L2.CX P w) (k + 1) f fd ps (dspG G (initG N.length ps.length b)) := by
  have hlen : ∀ s g0 g1 ds, (∀ (H : Hp) (Q : VK) (E : XK) (Ze : Addr → Prop) (a β0 β1 : Addr), GPoX G Ze a β0 β1 H Q E (initG N.length ps.length b s g0 g1 ds) → ds.length + 1 = ps.length ∧ N.length ≤ 12 ∧ okG s = true) := fun s g0 g1 ds H Q E Ze a β0 β1 q => by
    unfold initG at q
    split at q
    · assumption
    · exact q.elim
  refine F.ok S (fun vs H Q E h => ?_) fun cdv A outer s H vs Q E hr h => ?_
  · obtain ⟨Ze, a, s, g0, g1, us, ds, β0, β1, rfl, _, _, _, r, q⟩ := h
    rw [List.length_cons, ← r.length]
    exact (hlen s g0 g1 ds H Q E Ze a β0 β1 q).1
  · obtain ⟨Ze, a, so, g0, g1, us, ds, β0, β1, rfl, hz, zt, ga, r, q⟩ := h
    obtain ⟨hd, h12, hok⟩ := hlen so g0 g1 ds H Q E Ze a β0 β1 q
    refine ⟨_, hb cdv A outer s H E Ze a (lk_of hK S hr), _, _, SR.startG (Y := cyOf G Ze a E k N) (β0 := β0) (β1 := β1) rfl ⟨by omega, h12⟩ (by omega) zt ga hz r, ?_⟩
    unfold initG at q
    rw [if_pos ⟨hd, h12, hok⟩] at q
    change GPoX G Ze a β0 β1 H Q E (endG (b (Tw.startG N.length so g0 g1 ds))) at q
    have fr : ∀ {O' : Addr → Prop} {ρ : DEnv} {σ' : L2.St} {H' : Hp}, Stp (fun b => b = a ∨ b = β0 ∨ b = β1) H O' H' → SR (cyOf G Ze a E k N) O' ρ σ' H' → GFr a β0 β1 H H' := fun st s' => ⟨fun b o n0 n1 n2 e => st.1 b o (fun z => z.elim n0 fun z => z.elim n1 n2) e, fun b hn => by
      by_cases hb : b = a ∨ b = β0 ∨ b = β1
      · refine s'.zt b (.inl ?_)
        rcases hb with rfl | rfl | rfl
        · exact hz.1
        · exact hz.2.1
        · exact hz.2.2
      · obtain ⟨o, ho⟩ := Option.ne_none_iff_exists'.mp hn
        rw [st.1 b o hb ho]
        exact fun z => by cases z⟩
    have zw : ∀ {O' : Addr → Prop}, ∀ a, Ze a → Zo Ze O' a := fun a z => .inl z
    have fin : ∀ {O' : Addr → Prop} {σ' : L2.St} {H' : Hp} {d : D} {ρ : DEnv} {v : V}, GPoX G Ze a β0 β1 H Q E (outG ρ d) → Stp (fun b => b = a ∨ b = β0 ∨ b = β1) H O' H' → SR (cyOf G Ze a E k N) O' ρ σ' H' → Rep G (Zo Ze O') H' d v → Q v H' := by
      intro O' σ' H' d ρ v q st s' rv
      cases eo : outG ρ d with
      | no => rw [eo] at q; exact q.elim
      | ex z => exact (outG_no eo).elim
      | ok rr =>
        rw [eo] at q
        obtain ⟨γ0, γ1, Oa, O0, O1, nn, g⟩ := fin_GAt s' eo
        have w : ∀ γ, O' γ → γ ≠ a → (γ = β0 ∨ γ = β1 ∨ H γ = none) := fun γ h ne => by
          rcases st.2 γ h with (z | z | z) | z
          · exact absurd z ne
          · exact .inl z
          · exact .inr (.inl z)
          · exact .inr (.inr z)
        have zg : ∀ b, Zg Ze γ0 γ1 b → Zo Ze O' b := fun b z => by
          rcases z with z | rfl | rfl
          · exact .inl z
          · exact .inr O0
          · exact .inr O1
        refine q v H' γ0 γ1 (fr st s') (w γ0 O0 g.1.1.symm) (w γ1 O1 g.1.2.1.symm) nn (g.weak zg) ?_
        rw [(outG_ok eo).1]
        exact Rep.weak zg rv
    cases eb : b (Tw.startG N.length so g0 g1 ds) with
    | no => rw [eb] at q; exact q.elim
    | ex e => rw [eb] at q; exact q.elim
    | ok o =>
      rw [eb] at q
      show SPost _ _ _ _ (.ok o)
      cases o with
      | nx ρ => exact fun O' σ' H' st s' => fin q st s' rfl
      | bk ρ => exact q.elim
      | ct ρ => exact q.elim
      | rt d ρ => exact fun O' σ' H' v st s' rv => fin q st s' rv
      | xx e ρ => exact fun O' σ' H' c od st s' xr => q c od H' (fr st s') (xr.weak zw)
theorem SR.pad {Y : Cy} {O : Addr → Prop} {ρ : DEnv} {σ : L2.St} {H : Hp} (m : Nat) (s : SR Y O ρ σ H) : SR Y O (ρ ++ List.replicate m none) σ H := by
  obtain ⟨α, s⟩ := s
  have g : ∀ {k : Nat} {x : Slot}, (ρ ++ List.replicate m none)[k]? = some (some x) → ρ[k]? = some (some x) := fun {k x} h => by
    by_cases hk : k < ρ.length
    · rw [List.getElem?_append_left hk] at h; exact h
    · rw [List.getElem?_append_right (by omega), List.getElem?_replicate] at h
      split at h <;> cases h
  have g' : ∀ {k : Nat} {x : Slot}, ρ[k]? = some (some x) → (ρ ++ List.replicate m none)[k]? = some (some x) := fun {k x} h => by
    rw [List.getElem?_append_left (List.getElem?_eq_some_iff.mp h).1]; exact h
  have on : ∀ k, isOwn (ρ ++ List.replicate m none) k ↔ isOwn ρ k := fun k => ⟨fun ⟨d, h⟩ => ⟨d, h.imp g fun h => h.imp g g⟩, fun ⟨d, h⟩ => ⟨d, h.imp g' fun h => h.imp g' g'⟩⟩
  have gl : ∀ {l : List D} {vs : List V}, RepGL Y.G (Zo Y.Ze O) α ρ H l vs → RepGL Y.G (Zo Y.Ze O) α (ρ ++ List.replicate m none) H l vs := fun r => RepGL.weak (fun _ z => z) (fun j d h => ⟨d, g' h⟩) r
  refine ⟨α, ⟨s.len.1, by rw [List.length_append]; exact Nat.le_trans s.len.2 (Nat.le_add_right _ _)⟩, fun i d e => s.val i d (g e), fun i d e => s.own i d (g e), fun i d e => ?_, fun i d e => s.gho i d (g e), fun i j hi hj e => s.inj i j ((on i).mp hi) ((on j).mp hj) e, fun a => ?_, s.zt, s.ot, s.ptr.to (fun _ _ r => r) fun i x e _ => ⟨g e, rfl⟩⟩
  · obtain ⟨e1, e2, c, ks, l, dx, vs, e3, e4, e5, r⟩ := s.slf i d (g e)
    exact ⟨e1, e2, c, ks, l, dx, vs, e3, e4, e5, gl r⟩
  · rw [s.oeq]
    exact ⟨fun ⟨i, h, e⟩ => ⟨i, (on i).mpr h, e⟩, fun ⟨i, h, e⟩ => ⟨i, (on i).mp h, e⟩⟩
theorem unG_rep {G : Gc} {Z Z' : Addr → Prop} {H : Hp} {β0 β1 : Addr} {g0 g1 : D} (z : ∀ a, Z' a → Z a) (n0 : ¬ Z' β0) (n1 : ¬ Z' β1) (r0 : RepW G Z H g0 (.ref β0)) (r1 : RepW G Z H g1 (.ref β1)) : ∀ {l : List D} {vs : List V}, GL G Z β0 β1 H l vs → RepL G Z' H (l.map (unG g0 g1)) vs
  | [], vs, h => h
  | d :: l, vs, h => by
    obtain ⟨v, r, e, k1, k2⟩ := h
    have one : ∀ {g : D} {β : Addr}, ¬ Z' β → RepW G Z H g (.ref β) → Rep G Z' H g (.ref β) := fun {g β} nz rg => by
      have rg := RepW.weak z rg
      cases g with
      | lst l => obtain ⟨a, vs, e, t, r⟩ := rg; cases e; exact ⟨_, vs, rfl, nz, t, r⟩
      | dct ks l => obtain ⟨a, vs, e, t, k, r⟩ := rg; cases e; exact ⟨_, vs, rfl, nz, t, k, r⟩
      | obj c ks l => obtain ⟨a, dx, vs, e, t, k, r⟩ := rg; cases e; exact ⟨_, dx, vs, rfl, nz, t, k, r⟩
      | _ => exact rg
    refine ⟨v, r, e, ?_, unG_rep z n0 n1 r0 r1 k2⟩
    cases d with
    | gst j =>
      rcases k1 with ⟨rfl, q⟩ | ⟨rfl, q⟩
      · rw [q]; exact one n0 r0
      · rw [q]; exact one n1 r1
    | _ => exact Rep.weak z k1
theorem fn_initQ (F : FunD K x qual params body scope dvs kws f fd) (hK : G.K = K) (S : FnScope N ps scope) (hl : ps.length ≤ N.length)
    (hb : ∀ (cdv : Value) (A : Around) (outer : List Env) (s : Shared) (H : Hp) (E : XK) (Ze : Addr → Prop) (sa : Addr), PDSs (cxOf (L2.CX P w) P w K mg base N qual scope f cdv A outer s H E) (cyOf G Ze sa E k N) body b) :
    FnOk P w K mg base (L2.CX P w) (k + 1) f fd ps (dspM G (initQ N.length ps.length b)) := by
  have hlen : ∀ s ds, (∀ (H : Hp) (Q : VK) (E : XK) (Ze : Addr → Prop) (a : Addr), IPost G Ze a H Q E (initQ N.length ps.length b s ds) → ds.length + 1 = ps.length ∧ N.length ≤ 12) := fun s ds H Q E Ze a q => by
    unfold initQ at q
    split at q
    · assumption
    · exact q.elim
  refine F.ok S (fun vs H Q E h => ?_) fun cdv A outer s H vs Q E hr h => ?_
  · obtain ⟨Ze, a, s, us, ds, rfl, _, _, _, r, q⟩ := h
    rw [List.length_cons, ← r.length]
    exact (hlen s ds H Q E Ze a q).1
  · obtain ⟨Ze, a, so, us, ds, rfl, hz, zt, ob, r, q⟩ := h
    obtain ⟨hd, h12⟩ := hlen so ds H Q E Ze a q
    refine ⟨_, hb cdv A outer s H E Ze a (lk_of hK S hr), fun b => b = a, (some (.slf so) :: envD (N.length - 1) ds) ++ List.replicate (14 - N.length) none, SR.pad _ (SR.startS (Y := cyOf G Ze a E k N) rfl (by rw [hd]; exact hl) zt ob hz r), ?_⟩
    unfold initQ at q
    rw [if_pos ⟨hd, h12⟩] at q
    have sm : ∀ {O' : Addr → Prop} {H' : Hp}, Stp (fun b => b = a) H O' H' → ∀ b o, b ≠ a → H b = some o → H' b = some o := fun st b o n e => st.1 b o n e
    have zw : ∀ {O' : Addr → Prop}, ∀ a, Ze a → Zo Ze O' a := fun a z => .inl z
    have fin : ∀ {O' : Addr → Prop} {σ' : L2.St} {H' : Hp} {d : D} {ρ : DEnv} {v : V}, IPost G Ze a H Q E (outQ (outG ρ d)) → Stp (fun b => b = a) H O' H' → SR (cyOf G Ze a E k N) O' ρ σ' H' → Rep G Ze H' d v → Q v H' := by
      intro O' σ' H' d ρ v q st s' rv
      cases eo : outG ρ d with
      | no => rw [eo] at q; exact q.elim
      | ex z => exact (outG_no eo).elim
      | ok rr =>
        rw [eo] at q
        obtain ⟨γ0, γ1, Oa, O0, O1, nn, g⟩ := fin_GAt s' eo
        have e1 := (outG_ok eo).1
        obtain ⟨d', s1, a1, b1⟩ := rr
        obtain ⟨⟨n0, n1, n2⟩, ⟨r0, r1⟩, c, ks, l, dx, vs, es, hH, hlen', gl⟩ := g
        have es : s1 = .obj c ks l := es
        subst es
        have nz : ∀ γ, O' γ → γ ≠ a → ¬ Ze γ := fun γ h ne hze => by
          rcases st.2 γ h with z | z
          · exact ne z
          · exact zt γ hze z
        have e1 : d' = d := e1
        subst e1
        refine q v H' (sm st) ⟨c, ks, _, dx, vs, rfl, hH, hlen', ?_⟩ rv
        exact unG_rep (fun b z => zw b z) (nz γ0 O0 n0.symm) (nz γ1 O1 n1.symm) r0 r1 gl
    cases eb : b ((some (.slf so) :: envD (N.length - 1) ds) ++ List.replicate (14 - N.length) none) with
    | no => rw [eb] at q; exact q.elim
    | ex e => rw [eb] at q; exact q.elim
    | ok o =>
      rw [eb] at q
      show SPost _ _ _ _ (.ok o)
      cases o with
      | nx ρ => exact fun O' σ' H' st s' => fin q st s' rfl
      | bk ρ => exact q.elim
      | ct ρ => exact q.elim
      | rt d ρ => exact fun O' σ' H' v st s' rv => fin q st s' (Rep.weak zw rv)
      | xx e ρ => exact fun O' σ' H' c od st s' xr => q c od H' (sm st) (s'.zt a (.inl hz)) (xr.weak zw)
end
end Tw

set_option maxHeartbeats 2000000
namespace Tw
open PySem PySem.Spec L2
open PyProof.Rows hiding St
section
variable {X : Cx} {CX : CXT} {k : Nat} {C p g f : Addr} {mc : Value} {fd : FuncData} {ps : List Str} {sp : Sp} {E : L2.St → XK} {o e : Expr} {es : List Expr} {m x : Str} {pos apos p1 : Pos} {ta : TE} {t : TA} {pl : Sem Bool}
end
section
variable {X : Cx} {Y : Cy} {e : Expr} {es : List Expr} {fs : DA} {pos pos' p p2 apos cpos pc : Pos} {x m xc : Str} {i j : Nat} {c : String} {init : D → List D → R (D × D)} {den : List D → R D}
/-- the object under construction behind another def's changes -/
theorem SRa.reS {O : Addr → Prop} {ρ : DEnv} {σ : L2.St} {H H' : Hp} {α : Nat → Addr} {d d' : D} (s : SRa Y O α ρ σ H) (hi : ρ[i]? = some (some (.slf d))) (sm : ∀ b o, b ≠ Y.sa → H b = some o → H' b = some o) (ob : ObjAt Y.G (Zo Y.Ze O) H' Y.sa d') :
    SRa Y O α (ρ.set i (some (.slf d'))) σ H' := by
  have hl : i < ρ.length := (List.getElem?_eq_some_iff.mp hi).1
  obtain ⟨ei, ea, _⟩ := s.slf i d hi
  have oi : isOwn ρ i := ⟨_, .inr (.inl hi)⟩
  have Oi : O (α i) := (s.oeq _).mpr ⟨i, oi, rfl⟩
  have sub : ∀ j, isOwn (ρ.set i (some (.slf d'))) j ↔ isOwn ρ j := fun j => isOwn_setSlf hi
  have sb : Sub (Zo Y.Ze O) H H' := fun a u n e => sm a u (fun q => n (.inr (by rw [q, ← ea]; exact Oi))) e
  have an : ∀ j, isOwn ρ j → j ≠ i → α j ≠ Y.sa := fun j h n e => n (s.inj j i h oi (e.trans ea.symm))
  have st : ∀ b, H b ≠ none → H' b ≠ none := fun b hb => by
    by_cases h : b = Y.sa
    · subst h
      obtain ⟨c, ks, l, dx, vs, _, e2, _⟩ := ob
      rw [e2]
      exact fun z => by cases z
    · obtain ⟨o, ho⟩ := Option.ne_none_iff_exists'.mp hb
      rw [sm b o h ho]
      exact fun z => by cases z
  have gl : ∀ {l : List D} {vs : List V}, RepL Y.G (Zo Y.Ze O) H' l vs → RepGL Y.G (Zo Y.Ze O) α (ρ.set i (some (.slf d'))) H' l vs := by
    intro l
    induction l with
    | nil => intro vs h; exact h
    | cons d l ih =>
      intro vs h
      obtain ⟨v, r, e, h1, h2⟩ := h
      exact ⟨v, r, e, RepG.of h1, ih h2⟩
  refine ⟨by rw [List.length_set]; exact s.len, fun j d'' e => ?_, fun j d'' e => ?_, fun j d'' e => ?_, fun j d'' e => ?_, fun j k hj hk e => s.inj j k ((sub j).mp hj) ((sub k).mp hk) e, fun a => ?_, fun a z => st a (s.zt a z), fun a z => st a (s.ot a z), ptrA s.ptr rfl fun _ _ r => r.mono sb fun _ q => .inl q⟩
  · rcases set_at e with ⟨_, q⟩ | ⟨_, q⟩
    · cases q
    · obtain ⟨v, e1, r⟩ := s.val j d'' q
      exact ⟨v, e1, r.mono sb fun _ q => .inl q⟩
  · rcases set_at e with ⟨_, q⟩ | ⟨hj, q⟩
    · cases q
    · obtain ⟨e1, n, r⟩ := s.own j d'' q
      exact ⟨e1, n, RepW.sub sb (fun _ q => .inl q) (fun o => sm _ o (an j ⟨d'', .inl q⟩ hj)) r⟩
  · rcases set_at e with ⟨rfl, q⟩ | ⟨hj, q⟩
    · cases q
      obtain ⟨c, ks, l, dx, vs, e1, e2, e3, e4⟩ := ob
      exact ⟨ei, ea, c, ks, l, dx, vs, e1, by rw [ea]; exact e2, e3, gl e4⟩
    · obtain ⟨e1, n, _⟩ := s.slf j d'' q
      exact absurd n (an j ⟨d'', .inr (.inl q)⟩ hj)
  · rcases set_at e with ⟨_, q⟩ | ⟨hj, q⟩
    · cases q
    · obtain ⟨r, k⟩ := s.gho j d'' q
      exact ⟨RepW.sub sb (fun _ q => .inl q) (fun o => sm _ o (an j ⟨d'', .inr (.inr q)⟩ hj)) r, k⟩
  · rw [s.oeq]
    exact ⟨fun ⟨j, k, e⟩ => ⟨j, (sub j).mpr k, e⟩, fun ⟨j, k, e⟩ => ⟨j, (sub j).mp k, e⟩⟩
/-- C.__init__(self, ..) -/
theorem ds_init {pl : Sem Bool} {C g : Addr} {fd : FuncData} {ps : List Str} (hg : Gl X xc) (hmc : X.mg xc = some (.ref C)) (r : CFn X.K C m g) (F : FnOk X.prog X.w X.K X.mg X.base (L2.CX X.prog X.w) j g fd ps (dspM Y.G init)) (hb : Binds X.K fd ps []) (hj : j ≤ Y.lv) (hN : X.N[i]? = some x) (ha : PDA X Y es fs)
    (hv : Vis X.env.scope x := by first | exact Or.inl rfl | exact Or.inr (Or.inl rfl) | exact Or.inr (Or.inr rfl)) (hd : (x == ("__debug__" : Str)) = false := by decide) (hcd : (x == ("__classdict__" : Str)) = false := by decide)
    (hdb : (xc == ("__debug__" : Str)) = false := by decide) (hst : starEach (.Name x p2 :: es) X.env = (false, eval (.Name x p2) X.env) :: starEach es X.env := by rfl) (hpl : (backTo cpos (starEach es X.env)).any (·.1) = false := by rfl)
    (ht : eval (.Call (.Attribute (.Name xc pc) m apos) (.Name x p2 :: es) [] cpos) X.env = (do
      let ov ← eval (.Name xc pc) X.env
      standAt apos.atName
      let (f, first) ← holding [ov] (getMethod ov m pl)
      callWith cpos f first (backTo cpos (starEach (.Name x p2 :: es) X.env)) (backToKw cpos (keywordEach [] X.env))) := by rfl)
    (hsw : swapsWith (.Call (.Attribute (.Name xc pc) m apos) (.Name x p2 :: es) [] cpos) none pos.line X.env = pure false := by rfl) (hca : Y.ca = true := by rfl) :
    PDS X Y (.Expr (.Call (.Attribute (.Name xc pc) m apos) (.Name x p2 :: es) [] cpos) pos) (sInitC i init fs) := fun k => by
  refine impPS (ps_expr (pe_cfn (E := WE Y.E) hg hmc r F ((k.room hca).mono hj) hb (fun σ => passAt k.tk σ) (pa_cons (pe_var hN hv hd hcd) (ha k) hst) hdb hst hpl ht) hsw) fun N σ H ⟨O, ρ, s, q⟩ => ?_
  unfold sInitC at q
  split at q
  rotate_left
  · exact q.elim
  rename_i c ks l hs
  obtain ⟨e1, Oa⟩ := s.sa_of hs
  have s0 := s
  obtain ⟨α, s⟩ := s
  refine ⟨.ref Y.sa, e1, O, ρ, s0, ?_⟩
  cases ef : fs ρ with
  | no => rw [ef] at q; exact q.elim
  | ex z => rw [ef] at q; exact fun c od H1 s1 xr => q O σ H1 c od (Stp.same s1) (s0.same s1) xr
  | ok ds =>
    rw [ef] at q
    simp only [R.st_ok] at q
    split at q
    rotate_left
    · exact q.elim
    rename_i hng
    intro us H1 s1 rs
    have s2 := s.same s1
    obtain ⟨_, ea, c2, ks2, l2, dx, vs, es', hH, hlen, rl⟩ := s2.slf i _ hs
    cases es'
    rw [ea] at hH
    refine ⟨Zo Y.Ze O, Y.sa, _, us, ds, rfl, .inr Oa, (s0.same s1).zt, ⟨c, ks, l, dx, vs, rfl, hH, hlen, RepGL.plain hng rl⟩, rs, ?_⟩
    have q := SPost.fwd (Stp.same s1) q
    cases ei : init (.obj c ks l) ds with
    | no => rw [ei] at q; exact q.elim
    | ex z =>
      rw [ei] at q
      intro cc od H' sm ha xr
      have st : ∀ b, H1 b ≠ none → H' b ≠ none := fun b hb => by
        by_cases h : b = Y.sa
        · subst h; exact ha
        · obtain ⟨o, ho⟩ := Option.ne_none_iff_exists'.mp hb
          rw [sm b o h ho]
          exact fun z => by cases z
      exact q (fun _ => False) σ H' cc od ⟨fun b o n e => sm b o (fun z => n (z ▸ Oa)) e, fun b z => z.elim⟩ (SR.wiped s2 st) (ExRep.weak (fun b z => z.elim .inl False.elim) xr)
    | ok pr =>
      rw [ei] at q
      intro v H' sm ob rv
      exact q O σ H' ⟨fun b o n e => sm b o (fun z => n (z ▸ Oa)) e, fun b z => .inl z⟩ ⟨α, s2.reS hs sm ob⟩
end
end Tw

set_option maxHeartbeats 2000000
namespace Tw
open PySem PySem.Spec L2
open PyProof.Rows hiding St
/-- the keyword-only default of the name x of the method m of c -/
def kwAd (c m x : Str) (K : PySem.W.Frag) : Addr := match K.lookup (mAd c m K) with
  | some ⟨_, _, .func fd, _⟩ => (match fd.kwdefaults with
    | .ref D => (match PySem.W.nsIn K D x with
      | some (some (.ref a)) => a
      | _ => 0)
    | _ => 0)
  | _ => 0
/-- the positional default -/
def dfAd (c m : Str) (i : Nat) (K : PySem.W.Frag) : Addr := match K.lookup (mAd c m K) with
  | some ⟨_, _, .func fd, _⟩ => (match fd.defaults with
    | .ref T => (match K.lookup T with
      | some ⟨_, _, .seq its _, _⟩ => (match its[i]? with
        | some (.ref a) => a
        | _ => 0)
      | _ => 0)
    | _ => 0)
  | _ => 0
section
variable {X : Cx} {CX : CXT} {k : Nat} {f C : Addr} {fd : FuncData} {ps : List Str} {sp : Sp} {dvs : List V} {ds : List Value} {E : L2.St → XK} {x : Str} {p pos : Pos} {e : Expr} {es : List Expr} {t : TA}
end
section
variable {X : Cx} {Y : Cy} {e : Expr} {es : List Expr} {fs : DA} {pos p : Pos} {x : Str} {init : D → List D → R (D × D)} {dD : List D} {j : Nat}
end
end Tw

set_option maxHeartbeats 2000000
namespace Tw
open PySem PySem.Spec L2
open PyProof.Rows hiding St
section
variable {X : Cx} {Y : Cy} {a e tg elt iter : Expr} {ifs : List Expr} {fa : DE} {pos : Pos} {i : Nat}
end
section
variable {X : Cx} {Y : Cy} {tg iter elt : Expr} {ifs : List Expr} {scope : Scope} {own : List (Str × Nat)} {is : List Nat} {fi : DI} {g : DG} {c : DT} {e : DE} {pos : Pos}
end
end Tw

set_option maxHeartbeats 2000000
namespace Tw
open PySem PySem.Spec L2
open PyProof.Rows hiding St
section
variable {K : PySem.W.Frag} {x qual : Str} {params : Arguments} {body : List Stmt} {scope : Scope} {dv : V} {kws : List (Str × V)} {f : Addr} {fd : FuncData} {ps : List Str}
theorem bindsW (F : FunD K x qual params body scope [dv] kws f fd)
    (h : ∀ (T : Addr) (kV doc pm : Value) (an : Option Addr) (cdv ct : Value) (us its : List Value), us.length = ps.length → its.length = 1 →
      ∃ k, bindArgs (PySem.W.fnOf x qual params body scope (.ref T) kV doc pm an cdv ct) ⟨us, []⟩ = seqItems? (.ref T) >>= k ∧ k (some its.toArray) = pure (ps.zip us)) : Binds K fd ps [] := by
  obtain ⟨ds, hv, hb⟩ := F.binds1 (ps := ps) ps.length 1 (by exact fun q => by cases q) rfl fun T kV doc pm an cdv ct us its h1 h2 => by
    obtain ⟨k, e1, e2⟩ := h T kV doc pm an cdv ct us its h1 h2
    refine ⟨k, e1, ?_⟩
    rw [e2, List.drop_of_length_le (by rw [h2]; exact Nat.le_refl 1), List.append_nil]
  cases hv
  exact hb
theorem cons0 {n : Nat} {ks : List Str} {g : List Value → List Value → List Value} {m : List V} (h : KBn K fd ps n ks g (fun vs zs => vs ++ (zs ++ m))) :
    KBn K fd ps n ks g (fun vs zs => match vs with | v :: r => v :: (fun r zs => r ++ (zs ++ m)) r zs | [] => (fun r zs => r ++ (zs ++ m)) [] zs) := by
  have e : (fun vs zs => vs ++ (zs ++ m)) = (fun vs zs => match vs with | v :: r => v :: (fun r zs => r ++ (zs ++ m)) r zs | [] => (fun r zs => r ++ (zs ++ m)) [] zs) := by
    funext vs zs
    cases vs <;> rfl
  rw [← e]
  exact h
end
theorem lookV {G : Gc} {Z : Addr → Prop} {H : Hp} {x : Str} {d : D} : ∀ {ks : List Str} {l : List D} {vs : List V}, RepL G Z H l vs → lookD ks l x = some d → ∃ v, valV (sKeys ks vs) (Sum.inr x : Key) = some v ∧ Rep G Z H d v
  | [], l, vs, r, h => by cases h
  | k :: ks, [], vs, r, h => by cases h
  | k :: ks, d' :: l, vs, r, h => by
    obtain ⟨v, w, rfl, r1, r2⟩ := r
    unfold lookD at h
    by_cases e : x = k
    · subst e
      rw [if_pos rfl] at h
      cases h
      exact ⟨v, valV_pos rfl, r1⟩
    · rw [if_neg e] at h
      obtain ⟨u, h1, h2⟩ := lookV r2 h
      exact ⟨u, by rw [sKeys, valV_neg (fun z => e (Sum.inr.inj z).symm)]; exact h1, h2⟩
section
variable {X : Cx} {Y : Cy} {a b : Expr} {fa fb : DE} {pos p pos' : Pos} {x : Str} {i : Nat}
/-- x[k] += e, x the def's own dict -/
theorem ds_dputadd (hN : X.N[i]? = some x) (hb : PDw X Y b fb) (ha : PD X Y a fa) (hv : Vis X.env.scope x := by first | exact Or.inl rfl | exact Or.inr (Or.inl rfl) | exact Or.inr (Or.inr rfl)) (hd : (x == ("__debug__" : Str)) = false := by decide) (hcd : (x == ("__classdict__" : Str)) = false := by decide)
    (hau : ∀ ov iv new, augStore b ov iv new = (do holding [new, ov, iv] (setItem ov iv new); release [new, ov, iv] []; pure .next) := by intros; rfl) : PDS X Y (.AugAssign (.Subscript (.Name x p) b pos') .Add a pos) (sPutAdd i fb fa) := fun k => by
  refine impPS (ps_daug (hu_L k.rm) (pe_var hN hv hd hcd) (hb k) (ha k) in_add hau) fun N σ H ⟨O, ρ, s, q⟩ => ?_
  unfold sPutAdd at q
  split at q
  rotate_left
  · exact q.elim
  rename_i ks l hi
  obtain ⟨pl, hp, Op, rl⟩ := own_at s hi
  obtain ⟨_, vs, e, hl, hlen, rv⟩ := rl
  cases e
  refine ⟨.ref pl, hp, expw_then s q fun dk ek q2 u H1 s1 r1 => ?_⟩
  cases dk with
  | str z =>
    simp only at q2
    obtain rfl : u = .str z := r1
    split at q2
    rotate_left
    · exact q2.elim
    rename_i a0 hlk
    obtain ⟨v0, e0, r0⟩ := lookV (rv.same s1) hlk
    obtain rfl : v0 = .int a0 := r0
    have hl1 := s1 _ _ hl
    refine ⟨pl, .int a0, rfl, by rw [← e0]; exact DGet.k (k := Sum.inr z) hl1, exp_then (s.same s1) (SPost.fwd (Stp.same s1) q2) fun d ea q3 y H2 s2 r2 => ?_⟩
    cases d with
    | int b0 =>
      simp only at q3
      split at q3
      rotate_left
      · exact q3.elim
      rename_i hz
      obtain rfl : y = .int b0 := r2
      have hl2 := s2 _ _ hl1
      refine ⟨a0, b0, rfl, rfl, _, DPut.k (k := Sum.inr z) hl2 (by rw [len_sKeys hlen, lineD_eq]; exact hz), ?_⟩
      have s' := ((s.same s1).same s2).write (d' := .dct (dPutK z ks) (dPutV z (.int (a0 + b0)) ks l)) (o := .dK (putK (sKeys ks vs) (Sum.inr z) (.int (a0 + b0)))) hi hp
        ⟨pl, vPut z (.int (a0 + b0)) ks vs, rfl, by rw [upd_same, putK_s hlen], vPut_len hlen, RepL.mono (sub_upd Op) (fun _ z => .inl z) (rep_vPut (d := .int (a0 + b0)) rfl hlen ((rv.same s1).same s2))⟩
      exact q3 O σ _ ((Stp.same s2).trans (Stp.own Op)) s'
    | _ => exact q3.elim
  | _ => exact q2.elim
end
end Tw

set_option maxHeartbeats 2000000
namespace Tw
open PySem PySem.Spec L2
open PyProof.Rows hiding St
/-- all but D stands -/
def SameX (D : Addr) (H H' : Hp) : Prop := ∀ b o, b ≠ D → H b = some o → H' b = some o
theorem SameX.trans {D : Addr} {H H1 H2 : Hp} (a : SameX D H H1) (b : SameX D H1 H2) : SameX D H H2 := fun c o n h => b c o n (a c o n h)
theorem Same.x {D : Addr} {H H' : Hp} (s : Same H H') : SameX D H H' := fun b o _ h => s b o h
theorem SameX.sub {D : Addr} {H H' : Hp} {Z : Addr → Prop} (s : SameX D H H') (z : Z D) : Sub Z H H' := fun b o n h => s b o (fun e => n (e ▸ z)) h
section
variable {Y : Cy} {O : Addr → Prop} {ρ : DEnv} {σ : L2.St} {H H' : Hp} {α : Nat → Addr} {p0 : Addr}
theorem RepW.off {G : Gc} {Z : Addr → Prop} {d : D} {a : Addr} (s : SameX p0 H H') (z : Z p0) (ha : a ≠ p0) (h : RepW G Z H d (.ref a)) : RepW G Z H' d (.ref a) := by
  have sb := s.sub z
  cases d with
  | lst l => obtain ⟨b, vs, e, t, r⟩ := h; cases e; exact ⟨a, vs, rfl, s _ _ ha t, RepL.mono sb (fun _ z => .inl z) r⟩
  | dct ks l => obtain ⟨b, vs, e, t, k, r⟩ := h; cases e; exact ⟨a, vs, rfl, s _ _ ha t, k, RepL.mono sb (fun _ z => .inl z) r⟩
  | obj c ks l => obtain ⟨b, dx, vs, e, t, k, r⟩ := h; cases e; exact ⟨a, dx, vs, rfl, s _ _ ha t, k, RepL.mono sb (fun _ z => .inl z) r⟩
  | _ => exact Rep.mono sb (fun _ z => .inl z) h
theorem RepG.off (s : SameX p0 H H') {Z : Addr → Prop} (z : Z p0) {G : Gc} {d : D} {v : V} (h : RepG G Z α ρ H d v) : RepG G Z α ρ H' d v := by
  cases d with
  | gst j => exact h
  | _ => exact Rep.mono (s.sub z) (fun _ z => .inl z) h
theorem RepGL.off (s : SameX p0 H H') {Z : Addr → Prop} (z : Z p0) {G : Gc} : ∀ {ds : List D} {vs : List V}, RepGL G Z α ρ H ds vs → RepGL G Z α ρ H' ds vs
  | [], vs, h => h
  | d :: ds, vs, h => by
    obtain ⟨v, r, e, h1, h2⟩ := h
    exact ⟨v, r, e, RepG.off s z h1, RepGL.off s z h2⟩
theorem SR.off (h : SR Y O ρ σ H) (s : SameX p0 H H') (z : Y.Ze p0) (nO : ¬ O p0) (hD : H' p0 ≠ none) : SR Y O ρ σ H' := by
  obtain ⟨α, h⟩ := h
  have zo : Zo Y.Ze O p0 := .inl z
  have own : ∀ i, isOwn ρ i → α i ≠ p0 := fun i hi e => nO (e ▸ (h.oeq _).mpr ⟨i, hi, rfl⟩)
  have fr : ∀ a, H a ≠ none → H' a ≠ none := fun a n => by
    by_cases e : a = p0
    · rw [e]; exact hD
    · obtain ⟨o, ho⟩ := Option.ne_none_iff_exists'.mp n
      rw [s a o e ho]; exact fun z => by cases z
  refine ⟨α, h.len, fun i d e => ?_, fun i d e => ?_, fun i d e => ?_, fun i d e => ?_, h.inj, h.oeq, fun a z => fr a (h.zt a z), fun a z => fr a (h.ot a z), h.ptr.m fun _ _ r => r.mono (s.sub zo) (fun _ z => .inl z)⟩
  · obtain ⟨v, e1, r⟩ := h.val i d e
    exact ⟨v, e1, r.mono (s.sub zo) (fun _ z => .inl z)⟩
  · obtain ⟨e1, n, r⟩ := h.own i d e
    exact ⟨e1, n, r.off s zo (own i ⟨d, .inl e⟩)⟩
  · obtain ⟨e1, n, c, ks, l, dx, vs, e2, e3, e4, r⟩ := h.slf i d e
    exact ⟨e1, n, c, ks, l, dx, vs, e2, s _ _ (own i ⟨d, .inr (.inl e)⟩) e3, e4, RepGL.off s zo r⟩
  · obtain ⟨r, k⟩ := h.gho i d e
    exact ⟨r.off s zo (own i ⟨d, .inr (.inr e)⟩), k⟩
end
section
variable {X : Cx} {Y : Cy} {O : Addr → Prop} {ρ : DEnv} {σ : L2.St} {H : Hp}
variable {elt tg iter tg1 iter1 : Expr} {ifs1 : List Expr} {scope : Scope} {own : List (Str × Nat)} {pos : Pos} {fi it1 : DI} {g g1 : DG} {c1 : DT} {e : DE} {is vs1 : List Nat}
end
end Tw

namespace Tw
open PySem
end Tw

namespace Tw
open PySem
/-- the program's errors stand right under HierarchyError -/
def exSub (a c : String) : Bool := a == c || (c == "HierarchyError" || c == "ValueError")
/-- sep.join(x), x a list of texts -/
def oJoin (a : Str) : D → Option D
  | .lst l => match strsD l with
    | some ys => if (ys.map (·.length)).sum + ys.length * a.length ≤ lineD then some (.str (Str.join a ys)) else none
    | none => none
  | _ => none
def eJoin (a b : DE) : DE := fun ρ => (a ρ).bind fun x => match x with
  | .str z => (b ρ).bind fun y => R.of (oJoin z y)
  | _ => .no
/-- e.f, e the caught error -/
def eXf (e : Ex) (f : Str) : DE := fun _ => R.of (lookD e.ks e.vs f)
/-- isinstance(e, c) -/
def eXi (e : Ex) (c : String) : DE := fun _ => .ok (.bl (exSub e.cls c))
/-- a clause: the class, the place of its name, the suite -/
abbrev Hd := String × Nat × (Ex → DS)
def outX (i : Nat) : R Out → R Out
  | .ok (.nx ρ) => match ρ[i]? with | some none => .ok (.nx ρ) | _ => .no
  | .ok (.rt d ρ) => .ok (.rt d ρ)
  | _ => .no
def tryH : List Hd → Ex → DEnv → R Out
  | [], e, ρ => .ok (.xx e ρ)
  | h :: hs, e, ρ => if exSub e.cls h.1 then (match ρ[h.2.1]? with | some none => outX h.2.1 (h.2.2 e ρ) | _ => .no) else tryH hs e ρ
/-- try: b except ..: the classes es may come -/
def sTry (es : List String) (b : DS) (hs : List Hd) : DS := fun ρ => match b ρ with
  | .ok (.xx e ρ') => if e.cls ∈ es then tryH hs e ρ' else .no
  | r => r
end Tw

set_option maxHeartbeats 2000000
namespace Tw
open PySem PySem.Spec L2
open PyProof.Rows hiding St
abbrev Cl := Value × Nat × (Addr → Value → Option Addr → TS)
inductive ClsOk (X : Cx) : List ExceptHandler → List Cl → Prop
  | nil : ClsOk X [] []
  | cons {x n : Str} {c : Value} {i : Nat} {ts : Addr → Value → Option Addr → TS} {s0 : Stmt} {su : List Stmt} {np hp : Pos} {hs : List ExceptHandler} {l : List Cl} (hc : Names X x c) (hi : X.N[i]? = some n) (hl : X.env.kindOf n = some .local)
      (h : ∀ (a : Addr) (oe : Obj) (cls : Value) (d : Option Addr) (pn : List (Addr × Obj)), Zc cls d oe → (∃ vs, oe.data = .fields vs) → PSs (X.suite a ((a, oe) :: pn)) (s0 :: su) (ts a cls d)) (r : ClsOk X hs l) :
      ClsOk X (.ExceptHandler (some (.Name x np)) (some n) (s0 :: su) hp :: hs) ((c, i, ts) :: l)
section
variable {X : Cx} {body : List Stmt} {h0 : ExceptHandler} {hs : List ExceptHandler} {l : List Cl} {pos : Pos} {tb : WX → TS} {Wo : WX}
end
end Tw

set_option maxHeartbeats 2000000
namespace Tw
open PySem PySem.Spec L2
open PyProof.Rows hiding St
/-- a suite's constants: the error, its object, its dict, its name's place -/
structure Sc where
  e : Ex
  a : Addr
  dd : Addr
  i : Nat
structure XAt (Y : Cy) (S : Sc) (O : Addr → Prop) (σ : L2.St) (H : Hp) : Prop where
  sl : σ[S.i]? = some (some (.ref S.a))
  xd : ∃ vs, H S.dd = some (.xd (fKeys S.e.ks vs)) ∧ S.e.ks.length = vs.length ∧ RepL Y.G (Zo Y.Ze O) H S.e.vs vs
theorem XAt.same {Y : Cy} {S : Sc} {O : Addr → Prop} {σ : L2.St} {H H' : Hp} (h : XAt Y S O σ H) (s : Same H H') : XAt Y S O σ H' := ⟨h.sl, let ⟨vs, e1, e2, r⟩ := h.xd; ⟨vs, s _ _ e1, e2, r.same s⟩⟩
def tE (Y : Cy) (S : Sc) (f : DE) : TE := fun σ H Q => ∃ O ρ, SR Y O ρ σ H ∧ XAt Y S O σ H ∧ EPost Y O σ H Q (f ρ)
def tEw (Y : Cy) (S : Sc) (f : DE) : TE := fun σ H Q => ∃ O ρ, SR Y O ρ σ H ∧ XAt Y S O σ H ∧ EPostW Y O σ H Q (f ρ)
def tES (Y : Cy) (S : Sc) (F : DS) : TS := fun N σ H => ∃ O ρ, SR Y O ρ σ H ∧ XAt Y S O σ H ∧ SPost Y O H N (F ρ)
def PDe (X : Cx) (Y : Cy) (S : Sc) (e : Expr) (f : DE) : Prop := Lk X Y → PE X e (tE Y S f)
def PDew (X : Cx) (Y : Cy) (S : Sc) (e : Expr) (f : DE) : Prop := Lk X Y → PE X e (tEw Y S f)
def PDeSs (X : Cx) (Y : Cy) (S : Sc) (st : List Stmt) (F : DS) : Prop := Lk X Y → PSs X st (tES Y S F)
section
variable {X : Cx} {Y : Cy} {S : Sc} {a b c e : Expr} {es : List Expr} {fa fb : DE} {fs : DA} {ga gb : DT} {G1 G2 F : DS} {st : Stmt} {rest A B : List Stmt} {pos p p2 : Pos} {O : Addr → Prop} {ρ : DEnv} {σ : L2.St} {H H1 : Hp}
theorem PDe.w (h : PDe X Y S e fa) : PDew X Y S e fa := fun k => impPE (h k) fun σ H Q ⟨O, ρ, s, x, q⟩ => ⟨O, ρ, s, x, EPost.w q⟩
end
end Tw

set_option maxHeartbeats 2000000
namespace Tw
open PySem PySem.Spec L2
open PyProof.Rows hiding St
/-- the context of an except suite -/
def SuOk (X : Cx) (Y : Cy) (S : Sc) (es : List String) : Prop := ∃ (X0 : Cx) (oe : Obj) (pn : List (Addr × Obj)), X = X0.suite S.a ((S.a, oe) :: pn) ∧ Zc (.ref (Y.G.cm S.e.cls)) (some S.dd) oe ∧ (∃ vs, oe.data = .fields vs) ∧ S.e.cls ∈ es
section
variable {X : Cx} {Y : Cy} {S : Sc} {es es' cs : List String} {fs : List Str} {pos p p2 p3 : Pos} {n : Str}
end
def Cy.su (Y : Cy) : Cy := { Y with E := fun _ _ _ _ => False, ca := false }
section
variable {X : Cx} {Y : Cy} {O : Addr → Prop} {ρ : DEnv} {σ : L2.St} {H : Hp}
/-- a name that holds nothing: any value there -/
theorem SR.any {i : Nat} {x : Option V} (s : SR Y O ρ σ H) (hi : ρ[i]? = some none) : SR Y O ρ (σ.set i x) H := by
  obtain ⟨α, s⟩ := s
  have ne : ∀ {j : Nat} {y : Slot}, ρ[j]? = some (some y) → i ≠ j := fun e z => by rw [← z, hi] at e; cases e
  refine ⟨α, ⟨by rw [List.length_set]; exact s.len, fun j d e => ?_, fun j d e => ?_, fun j d e => ?_, s.gho, s.inj, s.oeq, s.zt, s.ot, s.ptr.to (fun _ _ r => r) fun j y e _ => ⟨e, List.getElem?_set_ne (ne e)⟩⟩⟩
  · rw [List.getElem?_set_ne (ne e)]; exact s.val j d e
  · rw [List.getElem?_set_ne (ne e)]; exact s.own j d e
  · rw [List.getElem?_set_ne (ne e)]; exact s.slf j d e
theorem Lk.su (k : Lk X Y) (a : Addr) (pn : List (Addr × Obj)) : Lk (X.suite a pn) Y.su :=
  ⟨k.K, k.ln, takes0, ⟨k.rm.dp, k.rm.un⟩, fun z => Bool.noConfusion z, k.nd, PassesOwn.never, fun z => Bool.noConfusion z⟩
inductive HdsD (X : Cx) (Y : Cy) (es : List String) : List ExceptHandler → List Hd → Prop
  | nil : HdsD X Y es [] []
  | cons {x n : Str} {c : String} {i : Nat} {fs : Ex → DS} {s0 : Stmt} {su : List Stmt} {np hp : Pos} {hs : List ExceptHandler} {hds : List Hd} (hc : Names X x (.ref (Y.G.cm c))) (hi : X.N[i]? = some n) (hl : X.env.kindOf n = some .local)
      (hex : ∀ a ∈ es, PySem.W.exmOne X.K (.ref (Y.G.cm a)) (.ref (Y.G.cm c)) = some (exSub a c))
      (h : ∀ (e : Ex) (a dd : Addr) (oe : Obj) (pn : List (Addr × Obj)), SuOk (X.suite a ((a, oe) :: pn)) Y.su ⟨e, a, dd, i⟩ es → PDeSs (X.suite a ((a, oe) :: pn)) Y.su ⟨e, a, dd, i⟩ (s0 :: su) (fs e))
      (r : HdsD X Y es hs hds) : HdsD X Y es (.ExceptHandler (some (.Name x np)) (some n) (s0 :: su) hp :: hs) ((c, i, fs) :: hds)
def tsOf (Y : Cy) (es : List String) (i : Nat) (fs : Ex → DS) : Addr → Value → Option Addr → TS := fun a cls d N σ H => ∃ e dd, cls = .ref (Y.G.cm e.cls) ∧ d = some dd ∧ e.cls ∈ es ∧ tES Y.su ⟨e, a, dd, i⟩ (fs e) N σ H
def clOfD (Y : Cy) (es : List String) (h : Hd) : Cl := (.ref (Y.G.cm h.1), h.2.1, tsOf Y es h.2.1 h.2.2)
theorem HdsD.ok {es : List String} (k : Lk X Y) {hs : List ExceptHandler} {hds : List Hd} (h : HdsD X Y es hs hds) : ClsOk X hs (hds.map (clOfD Y es)) := by
  induction h with
  | nil => exact .nil
  | cons hc hi hl hex h r ih =>
    refine .cons hc hi hl (fun a oe cls d pn hz hf => ⟨fun pins s σ H N I q => ?_⟩) ih
    obtain ⟨e, dd, rfl, rfl, he, q⟩ := q
    exact (h e a dd oe pn ⟨X, oe, pn, rfl, hz, hf, he⟩ (k.su a _)).run pins s σ H N I q
end
end Tw

set_option maxHeartbeats 2000000
namespace Tw
open PySem PySem.Spec L2
open PyProof.Rows hiding St
section
variable {X : Cx} {A1 : Around} {pins : List (Addr × Obj)} {σ : L2.St} {C f : Addr}
end
section
variable {X : Cx} {Y : Cy} {C f : Addr} {fd : FuncData} {N ps : List Str} {x qual m : Str} {params : Arguments} {body : List Stmt} {scope : Scope} {fl : Str}
end
section
variable {X : Cx} {Y : Cy} {a : Expr} {fa : DE} {c : String} {fl : Str} {p pos : Pos}
end
end Tw

set_option maxHeartbeats 2000000
namespace Tw
open PySem PySem.Spec L2
open PyProof.Rows hiding St
section
variable {X : Cx} {Y : Cy} {a b : Expr} {fa fb : DE} {pos : Pos}
end
end Tw

set_option maxHeartbeats 2000000
namespace Tw
open PySem PySem.Spec L2
open PyProof.Rows hiding St
section
variable {X : Cx} {Y : Cy} {a b : Expr} {fa fb : DE} {apos cpos : Pos}
end
end Tw

set_option maxHeartbeats 2000000
namespace Tw
open PySem PySem.Spec L2
open PyProof.Rows hiding St
section
variable {X : Cx} {Y : Cy} {a : Expr} {ta : TE} {fa : DE} {p p2 q pos : Pos}
end
end Tw

set_option maxHeartbeats 400000
namespace Tw
open PySem PySem.Spec L2
open PyProof.Rows hiding St
section
variable {X : Cx} {Y : Cy} {a b : Expr} {fa fb : DE} {pos p p2 apos cpos pos' : Pos} {x : Str}
theorem strs_rep {G : Gc} {Z : Addr → Prop} {H : Hp} : ∀ (l : List D) (vs : List V) (ys : List Str), RepL G Z H l vs → strsD l = some ys → vs = ys.map V.str
  | [], vs, ys, r, h => by
    obtain rfl : [] = ys := Option.some.inj h
    exact r
  | d :: l, vs, ys, r, h => by
    obtain ⟨v, r', rfl, rv, rl⟩ := r
    cases d with
    | str s =>
      obtain ⟨zs, hz, rfl⟩ := Option.map_eq_some_iff.mp (show (strsD l).map (s :: ·) = some ys from h)
      rw [List.map_cons, ← strs_rep l r' zs rl hz, show v = .str s from rv]
    | _ => exact nomatch (show none = some ys from h)
/-- sep.join(x) -/
theorem pd_join (ha : PDw X Y a fa) (hb : PDw X Y b fb) (hbase : attributeBase a "join" X.env (eval a X.env) = eval a X.env := by rfl)
    (hfew : ((backTo cpos (starEach (b :: []) X.env)).all (fun x => !x.1) && (backToKw cpos (keywordEach [] X.env)).all (fun x => x.1.isSome) && decide ((b :: []).length + ([] : List Keyword).length + (if ([] : List Keyword).isEmpty then 0 else 1) < 30)) = true := by rfl)
    (hline : (apos.endLine == cpos.line) = true := by rfl) (hs : starEach (b :: []) X.env = (false, eval b X.env) :: starEach [] X.env := by rfl) (hplain : (backTo cpos (starEach [] X.env)).any (·.1) = false := by rfl) :
    PD X Y (.Call (.Attribute a "join" apos) [b] [] cpos) (eJoin fa fb) := fun k => by
  refine impPE (pe_bm PySem.F.plainAttrs_str PySem.F.slot_str_join PySem.F.type_str_join mt_join (ha k) (pa_cons (hb k) pa_nil hs) hbase hfew hline hs hplain) fun σ H Q ⟨O, ρ, s, q⟩ => ?_
  refine ⟨O, ρ, s, ?_⟩
  unfold eJoin at q
  cases ea : fa ρ with
  | ex e => rw [ea] at q; exact q
  | no => rw [ea] at q; exact q
  | ok dx =>
    rw [ea, R.bind_ok] at q
    intro v H1 s1 rx
    cases dx with
    | str z =>
      obtain rfl : v = .str z := rx
      refine ⟨rfl, O, ρ, s.same s1, ?_⟩
      have q : EPost Y O σ H Q ((fb ρ).bind fun y => R.of (oJoin z y)) := q
      cases eb : fb ρ with
      | ex e => rw [eb] at q; exact ex_fwd s1 q
      | no => rw [eb] at q; exact q
      | ok dy =>
        rw [eb, R.bind_ok] at q
        intro y H2 s2 ry
        cases dy with
        | lst l =>
          obtain ⟨pp, vs, rfl, hp, r1⟩ := ry
          cases hy : strsD l with
          | none =>
            have e : oJoin z (.lst l) = none := by unfold oJoin; simp only [hy]
            rw [e] at q
            exact q.elim
          | some ys =>
            by_cases hz : (ys.map (·.length)).sum + ys.length * z.length ≤ lineD
            · have e : oJoin z (.lst l) = some (.str (Str.join z ys)) := by unfold oJoin; simp only [hy, if_pos hz]
              rw [e] at q
              have e2 := strs_rep _ _ _ r1 hy
              subst e2
              refine ⟨z, pp, ys, rfl, rfl, .inl (SqL.of hp), hz, ?_⟩
              have : Txt.join z ys = Str.join z ys := TL.join_eq z ys
              rw [this]
              exact q _ H2 (s1.trans s2) rfl
            · have e : oJoin z (.lst l) = none := by unfold oJoin; simp only [hy, if_neg hz]
              rw [e] at q
              exact q.elim
        | _ => exact q.elim
    | _ => exact q.elim
end
end Tw

set_option maxHeartbeats 400000
namespace Tw
open PySem PySem.Spec L2
open PyProof.Rows hiding St
def difH : D → D → Bool
  | .obj _ ks _, .obj _ ks' _ => !(ks.length == ks'.length)
  | _, _ => false
def difL : List D → List D → Bool
  | a :: l, b :: k => !(l.length == k.length) || difH a b
  | [], [] => false
  | _, _ => true
mutual
def sepD (Ls : List (List D)) : D → Bool
  | .lst l => Ls.all (difL l) && sepDs Ls l
  | .dct _ l => sepDs Ls l
  | .scr _ => false
  | .gst _ => false
  | .tup l => sepDs Ls l
  | .obj _ _ l => sepDs Ls l
  | _ => true
def sepDs (Ls : List (List D)) : List D → Bool
  | [] => true
  | d :: l => sepD Ls d && sepDs Ls l
end
theorem difH_ne {G : Gc} {Z Z0 : Addr → Prop} {H : Hp} {a b : D} {v : V} (h : Rep G Z H a v) (k : Rep G Z0 H b v) (d : difH a b = true) : False := by
  cases a <;> cases b <;> first | (cases d; done) | skip
  rename_i c ks l c' ks' l'
  obtain ⟨p, dx, vs, e, _, t, ⟨n, _⟩, _⟩ := h
  obtain ⟨p', dx', vs', e', _, t', ⟨n', _⟩, _⟩ := k
  rw [e] at e'
  cases e'
  rw [t] at t'
  have fl : ∀ (ks : List Str) (vs : List V), ks.length = vs.length → (fKeys ks vs).length = ks.length := by
    intro ks
    induction ks with
    | nil => intro vs _; cases vs <;> rfl
    | cons k ks ih =>
      intro vs h
      cases vs with
      | nil => cases h
      | cons v vs => show (fKeys ks vs).length + 1 = _; rw [ih vs (by simpa using h)]; rfl
  have e1 := fl ks vs n
  have e2 := fl ks' vs' n'
  have t2 := Option.some.inj t'
  injection t2 with _ _ t3
  rw [t3] at e1
  have : ks.length = ks'.length := e1.symm.trans e2
  simp [difH, this] at d
theorem difL_ne {G : Gc} {Z Z0 : Addr → Prop} {H : Hp} {l k : List D} {vs : List V} (h : RepL G Z H l vs) (q : RepL G Z0 H k vs) (d : difL l k = true) : False := by
  have e : l.length = k.length := h.length.trans q.length.symm
  cases l with
  | nil =>
    cases k with
    | nil => cases d
    | cons b k => cases e
  | cons a l =>
    cases k with
    | nil => cases e
    | cons b k =>
      have e : l.length = k.length := by simpa using e
      obtain ⟨v, r, ev, h1, _⟩ := h
      obtain ⟨v', r', ev', h1', _⟩ := q
      rw [ev] at ev'
      cases ev'
      simp [difL, e] at d
      exact difH_ne h1 h1' d
mutual
theorem Rep.sep {G : Gc} {Z Z' : Addr → Prop} {H : Hp} {Ls : List (List D)} (z : ∀ a, Z' a → Z a ∨ ∃ l ∈ Ls, ∃ Z0 vs, H a = some (.lst vs) ∧ RepL G Z0 H l vs) : ∀ {d : D} {v : V}, sepD Ls d = true → Rep G Z H d v → Rep G Z' H d v
  | .non, v, _, h => h
  | .bl b, v, _, h => h
  | .int i, v, _, h => h
  | .str x, v, _, h => h
  | .cls n, v, _, h => h
  | .gst j, v, n, h => by cases n
  | .scr ns, v, n, h => by cases n
  | .lst l, v, n, h => by
    have n' : (Ls.all (difL l) && sepDs Ls l) = true := by unfold sepD at n; exact n
    obtain ⟨n1, n2⟩ := Bool.and_eq_true_iff.mp n'
    obtain ⟨a, vs, e, nz, t, r⟩ := h
    refine ⟨a, vs, e, fun q => (z a q).elim nz fun ⟨k, hk, Z0, us, t2, r2⟩ => ?_, t, RepL.sep z n2 r⟩
    rw [t] at t2
    cases t2
    exact difL_ne r r2 (List.all_eq_true.mp n1 k hk)
  | .dct ks l, v, n, h => by
    obtain ⟨a, vs, e, nz, t, k, r⟩ := h
    exact ⟨a, vs, e, fun q => (z a q).elim nz fun ⟨_, _, _, us, t2, _⟩ => (by rw [t] at t2; cases t2), t, k, RepL.sep z (by simpa [sepD] using n) r⟩
  | .tup l, v, n, h => by
    obtain ⟨a, vs, e, t, r⟩ := h
    refine ⟨a, vs, e, ?_, RepL.sep z (by simpa [sepD] using n) r⟩
    rcases t with ⟨nz, t⟩ | t
    · exact .inl ⟨fun q => (z a q).elim nz fun ⟨_, _, _, us, t2, _⟩ => (by rw [t] at t2; cases t2), t⟩
    · exact .inr t
  | .obj c ks l, v, n, h => by
    obtain ⟨a, dx, vs, e, nz, t, k, r⟩ := h
    exact ⟨a, dx, vs, e, fun q => (z a q).elim nz fun ⟨_, _, _, us, t2, _⟩ => (by rw [t] at t2; cases t2), t, k, RepL.sep z (by simpa [sepD] using n) r⟩
theorem RepL.sep {G : Gc} {Z Z' : Addr → Prop} {H : Hp} {Ls : List (List D)} (z : ∀ a, Z' a → Z a ∨ ∃ l ∈ Ls, ∃ Z0 vs, H a = some (.lst vs) ∧ RepL G Z0 H l vs) : ∀ {ds : List D} {vs : List V}, sepDs Ls ds = true → RepL G Z H ds vs → RepL G Z' H ds vs
  | [], vs, _, h => h
  | d :: ds, vs, n, h => by
    obtain ⟨v, r, e, h1, h2⟩ := h
    obtain ⟨n1, n2⟩ := Bool.and_eq_true_iff.mp (by simpa [sepDs] using n)
    exact ⟨v, r, e, Rep.sep z n1 h1, RepL.sep z n2 h2⟩
end
section
variable {X : Cx} {Y : Cy} {O : Addr → Prop} {ρ : DEnv} {σ : L2.St} {H : Hp} {a : Expr} {fa : DE}
end
section
variable {is : List Nat} {a e : DE} {ρ : DEnv} {d : D} {x : Ex} {Ls : List (List D)} {l : List D} {ks : List Str} {c : String}
end
section
variable {X : Cx} {Y : Cy} {O : Addr → Prop} {ρ : DEnv} {σ : L2.St} {H : Hp} {a : Expr} {fa : DE} {p2 pos : Pos}
end
section
variable {X : Cx} {Y : Cy} {a : Expr} {ft : DT}
end
end Tw

set_option maxHeartbeats 400000
namespace Tw
open PySem PySem.Spec L2
open PyProof.Rows hiding St
section
variable {X : Cx} {Y : Cy} {elt tg iter : Expr} {ifs : List Expr} {scope : Scope} {own : List (Str × Nat)} {pos : Pos} {fi : DI} {g : DG} {c : DT} {e : DE} {is : List Nat}
end
end Tw

set_option maxHeartbeats 400000
namespace Tw
open PySem PySem.Spec L2
open PyProof.Rows hiding St
section
variable {X : Cx} {Y : Cy} {x y : Str} {p apos cpos py pos : Pos}
end
end Tw

set_option maxHeartbeats 400000
namespace Tw
open PySem PySem.Spec L2 RT
open PyProof.Rows hiding St
def iRev (a : DE) : DI := fun ρ => (a ρ).bind fun x => match x with
  | .lst l => .ok l.reverse
  | _ => .no
section
variable {X : Cx} {Y : Cy} {tg a : Expr} {fa : DE} {p pos : Pos}
end
end Tw

set_option maxHeartbeats 400000
namespace Tw
open PySem PySem.Spec L2
open PyProof.Rows hiding St
def dcL (g : DG) (c : DT) (ke ve : DE) (ρ : DEnv) : List D → List Str → List D → R (List Str × List D)
  | [], ks, ds => .ok (ks, ds)
  | x :: xs, ks, ds => match g x ρ with
    | .ok ρ' => match c ρ' with
      | .ok true => match ke ρ' with
        | .ok (.str s) => match ve ρ' with
          | .ok y => if ks.length < lineD then dcL g c ke ve ρ xs (dPutK s ks) (dPutV s y ks ds) else .no
          | _ => .no
        | _ => .no
      | .ok false => dcL g c ke ve ρ xs ks ds
      | _ => .no
    | _ => .no
def eDComp (it : DI) (vs : List Nat) (g : DG) (c : DT) (ke ve : DE) : DE := fun ρ => (it ρ).bind fun l => if l.length ≤ lineD ∧ okW vs ρ = true then (dcL g c ke ve (wipD vs ρ) l [] []).bind fun z => .ok (.dct z.1 z.2) else .no
section
variable {X : Cx} {Y : Cy} {O : Addr → Prop} {ρ : DEnv} {σ : L2.St} {H : Hp}
variable {kx vx tg iter : Expr} {ifs : List Expr} {scope : Scope} {own : List (Str × Nat)} {pos : Pos} {fi : DI} {g : DG} {c : DT} {ke ve : DE} {is : List Nat}
end
end Tw

set_option maxHeartbeats 400000
namespace Tw
open PySem PySem.Spec L2
open PyProof.Rows hiding St
def kndD : D → Nat
  | .non => 0 | .bl _ => 1 | .int _ => 2 | .str _ => 3 | .lst _ => 5 | .dct _ _ => 6 | .obj _ _ _ => 7 | _ => 4
/-- kinds that one value cannot be of at once -/
def kndNe (i j : Nat) : Bool := !(i == j) && (decide (i < 4) || decide (j < 4) || (decide (4 < i) && decide (4 < j)))
mutual
def neD : D → D → Bool
  | .lst l, .lst k => neL l k
  | .int i, .int j => !(i == j)
  | .str a, .str b => !(a == b)
  | .bl a, .bl b => !(a == b)
  | .obj _ ks l, .obj _ ks' l' => !(ks.length == ks'.length) || neL l l'
  | x, y => kndNe (kndD x) (kndD y)
def neL : List D → List D → Bool
  | [], [] => false
  | a :: l, b :: k => neD a b || neL l k
  | _, _ => true
end
/-- the kind of a value, as the heap shows it -/
def kndV (H : Hp) : V → Nat → Prop
  | .non, n => n = 0 | .bl _, n => n = 1 | .int _, n => n = 2 | .str _, n => n = 3
  | .ref a, n => (∃ vs, H a = some (.lst vs) ∧ n = 5) ∨ (∃ m, H a = some (.dK m) ∧ n = 6) ∨ (∃ c dx m, H a = some (.ins c dx m) ∧ n = 7) ∨ n = 4
  | _, n => n = 4
theorem rep_knd {G : Gc} {Z : Addr → Prop} {H : Hp} {d : D} {v : V} (h : Rep G Z H d v) : kndV H v (kndD d) := by
  cases d with
  | non => obtain rfl : v = .non := h; rfl
  | bl b => obtain rfl : v = .bl b := h; rfl
  | int b => obtain rfl : v = .int b := h; rfl
  | str b => obtain rfl : v = .str b := h; rfl
  | cls b => obtain rfl : v = .ref (G.cm b) := h; exact .inr (.inr (.inr rfl))
  | gst j => exact h.elim
  | scr ns => obtain ⟨a, rfl, _⟩ := h; exact .inr (.inr (.inr rfl))
  | tup ns => obtain ⟨a, vs, rfl, _⟩ := h; exact .inr (.inr (.inr rfl))
  | lst l => obtain ⟨a, vs, rfl, _, t, _⟩ := h; exact .inl ⟨vs, t, rfl⟩
  | dct ks l => obtain ⟨a, vs, rfl, _, t, _⟩ := h; exact .inr (.inl ⟨_, t, rfl⟩)
  | obj c ks l => obtain ⟨a, dx, vs, rfl, _, t, _⟩ := h; exact .inr (.inr (.inl ⟨_, _, _, t, rfl⟩))
theorem knd_ne {H : Hp} {v : V} {i j : Nat} (h : kndV H v i) (k : kndV H v j) : kndNe i j = false := by
  unfold kndNe
  cases v with
  | non => obtain rfl : i = 0 := h; obtain rfl : j = 0 := k; rfl
  | bl b => obtain rfl : i = 1 := h; obtain rfl : j = 1 := k; rfl
  | int b => obtain rfl : i = 2 := h; obtain rfl : j = 2 := k; rfl
  | str b => obtain rfl : i = 3 := h; obtain rfl : j = 3 := k; rfl
  | ref a =>
    rcases h with ⟨vs, t, rfl⟩ | ⟨m, t, rfl⟩ | ⟨c, dx, m, t, rfl⟩ | rfl <;> rcases k with ⟨vs', t', rfl⟩ | ⟨m', t', rfl⟩ | ⟨c', dx', m', t', rfl⟩ | rfl <;> first | rfl | (rw [t] at t'; cases t')
  | _ => obtain rfl : i = 4 := h; obtain rfl : j = 4 := k; rfl
theorem fKeys_n : ∀ (ks : List Str) (vs : List V), ks.length = vs.length → (fKeys ks vs).length = ks.length ∧ (fKeys ks vs).map (·.2) = vs := by
  intro ks
  induction ks with
  | nil => intro vs h; cases vs with
    | nil => exact ⟨rfl, rfl⟩
    | cons v vs => cases h
  | cons k ks ih =>
    intro vs h
    cases vs with
    | nil => cases h
    | cons v vs =>
      obtain ⟨h1, h2⟩ := ih vs (by simpa using h)
      exact ⟨by show (fKeys ks vs).length + 1 = _; rw [h1]; rfl, by show v :: (fKeys ks vs).map (·.2) = _; rw [h2]⟩
mutual
theorem neD_ne {G : Gc} {Z Z0 : Addr → Prop} {H : Hp} : ∀ {x y : D} {v : V}, Rep G Z H x v → Rep G Z0 H y v → neD x y = true → False := by
  intro x y v h k d
  have kn : kndNe (kndD x) (kndD y) = false := knd_ne (rep_knd h) (rep_knd k)
  match x, y with
  | .lst l, .lst m =>
    obtain ⟨a, vs, e, _, t, r⟩ := h
    obtain ⟨a', vs', e', _, t', r'⟩ := k
    rw [e] at e'
    cases e'
    rw [t] at t'
    cases t'
    exact neL_ne r r' (by simpa [neD] using d)
  | .int i, .int j =>
    have h : v = .int i := h
    have k : v = .int j := k
    rw [h] at k
    cases k
    simp [neD] at d
  | .str i, .str j =>
    have h : v = .str i := h
    have k : v = .str j := k
    rw [h] at k
    cases k
    simp [neD] at d
  | .bl i, .bl j =>
    have h : v = .bl i := h
    have k : v = .bl j := k
    rw [h] at k
    cases k
    simp [neD] at d
  | .obj c ks l, .obj c' ks' l' =>
    obtain ⟨p, dx, vs, e, _, t, ⟨n, _⟩, r⟩ := h
    obtain ⟨p', dx', vs', e', _, t', ⟨n', _⟩, r'⟩ := k
    rw [e] at e'
    cases e'
    rw [t] at t'
    obtain ⟨e1, f1⟩ := fKeys_n ks vs n
    obtain ⟨e2, f2⟩ := fKeys_n ks' vs' n'
    have t2 := Option.some.inj t'
    injection t2 with _ _ t3
    rw [t3] at e1 f1
    have q : ks.length = ks'.length := e1.symm.trans e2
    have q2 : vs' = vs := f2.symm.trans f1
    subst q2
    have d' : (!(ks.length == ks'.length) || neL l l') = true := by simpa [neD] using d
    rcases Bool.or_eq_true_iff.mp d' with d1 | d1
    · simp [q] at d1
    · exact neL_ne r r' d1
  | .non, y => cases y <;> simp [neD, kn] at d <;> simp_all [kndNe, kndD]
  | .cls n, y => cases y <;> simp [neD, kn] at d <;> simp_all [kndNe, kndD]
  | .gst n, y => exact h.elim
  | .scr n, y => cases y <;> simp [neD, kn] at d <;> simp_all [kndNe, kndD]
  | .tup n, y => cases y <;> simp [neD, kn] at d <;> simp_all [kndNe, kndD]
  | .dct n m, y => cases y <;> simp [neD, kn] at d <;> simp_all [kndNe, kndD]
  | .bl b, .non | .bl b, .int _ | .bl b, .str _ | .bl b, .cls _ | .bl b, .scr _ | .bl b, .gst _ | .bl b, .tup _ | .bl b, .lst _ | .bl b, .dct _ _ | .bl b, .obj _ _ _ => simp [neD] at d; rw [kn] at d; cases d
  | .int b, .non | .int b, .bl _ | .int b, .str _ | .int b, .cls _ | .int b, .scr _ | .int b, .gst _ | .int b, .tup _ | .int b, .lst _ | .int b, .dct _ _ | .int b, .obj _ _ _ => simp [neD] at d; rw [kn] at d; cases d
  | .str b, .non | .str b, .bl _ | .str b, .int _ | .str b, .cls _ | .str b, .scr _ | .str b, .gst _ | .str b, .tup _ | .str b, .lst _ | .str b, .dct _ _ | .str b, .obj _ _ _ => simp [neD] at d; rw [kn] at d; cases d
  | .lst b, .non | .lst b, .bl _ | .lst b, .int _ | .lst b, .cls _ | .lst b, .scr _ | .lst b, .gst _ | .lst b, .tup _ | .lst b, .str _ | .lst b, .dct _ _ | .lst b, .obj _ _ _ => simp [neD] at d; rw [kn] at d; cases d
  | .obj _ _ b, .non | .obj _ _ b, .bl _ | .obj _ _ b, .int _ | .obj _ _ b, .cls _ | .obj _ _ b, .scr _ | .obj _ _ b, .gst _ | .obj _ _ b, .tup _ | .obj _ _ b, .lst _ | .obj _ _ b, .dct _ _ | .obj _ _ b, .str _ => simp [neD] at d; rw [kn] at d; cases d
theorem neL_ne {G : Gc} {Z Z0 : Addr → Prop} {H : Hp} : ∀ {l k : List D} {vs : List V}, RepL G Z H l vs → RepL G Z0 H k vs → neL l k = true → False
  | [], [], _, _, _, d => by simp [neL] at d
  | [], b :: k, vs, h, q, _ => by
    obtain ⟨v, r, e, _⟩ := q
    rw [show vs = [] from h] at e
    cases e
  | a :: l, [], vs, h, q, _ => by
    obtain ⟨v, r, e, _⟩ := h
    rw [show vs = [] from q] at e
    cases e
  | a :: l, b :: k, vs, h, q, d => by
    obtain ⟨v, r, e, h1, h2⟩ := h
    obtain ⟨v', r', e', h1', h2'⟩ := q
    rw [e] at e'
    cases e'
    have d' : (neD a b || neL l k) = true := by simpa [neL] using d
    rcases Bool.or_eq_true_iff.mp d' with d1 | d1
    · exact neD_ne h1 h1' d1
    · exact neL_ne h2 h2' d1
end
end Tw

set_option maxHeartbeats 400000
namespace Tw
open PySem PySem.Spec L2
open PyProof.Rows hiding St
mutual
/-- the lists in the data -/
def subD : D → List (List D)
  | .lst l => l :: subDs l
  | .tup l => subDs l
  | .dct _ l => subDs l
  | .obj _ _ l => subDs l
  | .scr ns => [ns.map D.int]
  | _ => []
def subDs : List D → List (List D)
  | [] => []
  | d :: l => subD d ++ subDs l
end
theorem repL_ints {G : Gc} {Z : Addr → Prop} {H : Hp} : ∀ {ns : List Int}, RepL G Z H (ns.map D.int) (ns.map V.int)
  | [] => rfl
  | n :: ns => ⟨_, _, rfl, rfl, repL_ints⟩
/-- Z' holds no cell outside Z that may be leaned on -/
def CzOk (G : Gc) (Z Z' : Addr → Prop) (H : Hp) (Ls : List (List D)) : Prop := ∀ a, ¬ Z a → H a ≠ none → (∀ vs, H a = some (.lst vs) → ∃ k ∈ Ls, ∃ Z0, RepL G Z0 H k vs) → ¬ Z' a
mutual
theorem Rep.cz {G : Gc} {Z Z' : Addr → Prop} {H : Hp} {Ls : List (List D)} (c : CzOk G Z Z' H Ls) : ∀ {d : D} {v : V}, (∀ k ∈ subD d, k ∈ Ls) → Rep G Z H d v → Rep G Z' H d v
  | .non, v, _, h => h
  | .bl b, v, _, h => h
  | .int i, v, _, h => h
  | .str x, v, _, h => h
  | .cls n, v, _, h => h
  | .gst j, v, n, h => h.elim
  | .scr ns, v, n, h => by
    obtain ⟨a, e, h⟩ := h
    refine ⟨a, e, h.imp (fun ⟨nz, r⟩ => ⟨c a nz (fun q => ?_) fun vs q => ?_, r⟩) id⟩
    · rcases r with r | ⟨o, r⟩ <;> rw [q] at r <;> cases r
    · rcases r with r | ⟨o, r⟩
      · rw [q] at r
        cases r
        exact ⟨ns.map D.int, n _ (by simp [subD]), fun _ => False, repL_ints⟩
      · rw [q] at r
        cases r
  | .lst l, v, n, h => by
    obtain ⟨a, vs, e, nz, t, r⟩ := h
    exact ⟨a, vs, e, c a nz (by rw [t]; exact fun q => by cases q) fun us q => (by rw [t] at q; cases q; exact ⟨l, n _ (by simp [subD]), Z, r⟩), t, RepL.cz c (fun k hk => n k (by simp [subD, hk])) r⟩
  | .dct ks l, v, n, h => by
    obtain ⟨a, vs, e, nz, t, k, r⟩ := h
    exact ⟨a, vs, e, c a nz (by rw [t]; exact fun q => by cases q) fun us q => (by rw [t] at q; cases q), t, k, RepL.cz c (fun k hk => n k (by simpa [subD] using hk)) r⟩
  | .tup l, v, n, h => by
    obtain ⟨a, vs, e, t, r⟩ := h
    refine ⟨a, vs, e, ?_, RepL.cz c (fun k hk => n k (by simpa [subD] using hk)) r⟩
    rcases t with ⟨nz, t⟩ | t
    · exact .inl ⟨c a nz (by rw [t]; exact fun q => by cases q) fun us q => (by rw [t] at q; cases q), t⟩
    · exact .inr t
  | .obj cn ks l, v, n, h => by
    obtain ⟨a, dx, vs, e, nz, t, k, r⟩ := h
    exact ⟨a, dx, vs, e, c a nz (by rw [t]; exact fun q => by cases q) fun us q => (by rw [t] at q; cases q), t, k, RepL.cz c (fun k hk => n k (by simpa [subD] using hk)) r⟩
theorem RepL.cz {G : Gc} {Z Z' : Addr → Prop} {H : Hp} {Ls : List (List D)} (c : CzOk G Z Z' H Ls) : ∀ {ds : List D} {vs : List V}, (∀ k ∈ subDs ds, k ∈ Ls) → RepL G Z H ds vs → RepL G Z' H ds vs
  | [], vs, _, h => h
  | d :: ds, vs, n, h => by
    obtain ⟨v, r, e, h1, h2⟩ := h
    exact ⟨v, r, e, Rep.cz c (fun k hk => n k (by simp [subDs, hk])) h1, RepL.cz c (fun k hk => n k (by simp [subDs, hk])) h2⟩
end
/-- the state without the names that are not marked, nor the object under construction -/
def keep1 : Option Slot → Option Slot
  | some (.val d) => some (.val d)
  | some (.own d) => some (.own d)
  | _ => none
def keepM : List Bool → DEnv → DEnv
  | _, [] => []
  | true :: m, o :: ρ => keep1 o :: keepM m ρ
  | false :: m, _ :: ρ => none :: keepM m ρ
  | [], _ :: ρ => none :: keepM [] ρ
def subE1 : Option Slot → List (List D)
  | some (.val d) => subD d
  | some (.own d) => subDs [d]
  | _ => []
def subE : DEnv → List (List D)
  | [] => []
  | o :: ρ => subE1 o ++ subE ρ
theorem keepM_len : ∀ (m : List Bool) (ρ : DEnv), (keepM m ρ).length = ρ.length
  | _, [] => by cases ‹List Bool› with | nil => rfl | cons b m => cases b <;> rfl
  | true :: m, o :: ρ => by show (keepM m ρ).length + 1 = _; rw [keepM_len m ρ]; rfl
  | false :: m, o :: ρ => by show (keepM m ρ).length + 1 = _; rw [keepM_len m ρ]; rfl
  | [], o :: ρ => by show (keepM [] ρ).length + 1 = _; rw [keepM_len [] ρ]; rfl
theorem keep1_at {o : Option Slot} {x : Slot} (h : keep1 o = some x) : o = some x ∧ ((∃ d, x = .val d) ∨ ∃ d, x = .own d) := by
  cases o with
  | none => cases h
  | some y => cases y <;> first | (cases h; exact ⟨rfl, .inl ⟨_, rfl⟩⟩) | (cases h; exact ⟨rfl, .inr ⟨_, rfl⟩⟩) | cases h
theorem keepM_at : ∀ (m : List Bool) (ρ : DEnv) (i : Nat) (x : Slot), (keepM m ρ)[i]? = some (some x) → ρ[i]? = some (some x) ∧ ((∃ d, x = .val d) ∨ ∃ d, x = .own d)
  | m, [], i, x, h => by cases m with | nil => cases h | cons b m => cases b <;> cases h
  | true :: m, o :: ρ, 0, x, h => by
    have h : keep1 o = some x := Option.some.inj h
    obtain ⟨e, k⟩ := keep1_at h
    exact ⟨by rw [e]; rfl, k⟩
  | true :: m, o :: ρ, i + 1, x, h => keepM_at m ρ i x h
  | false :: m, o :: ρ, 0, x, h => by cases h
  | false :: m, o :: ρ, i + 1, x, h => keepM_at m ρ i x h
  | [], o :: ρ, 0, x, h => by cases h
  | [], o :: ρ, i + 1, x, h => keepM_at [] ρ i x h
theorem subE_at : ∀ {ρ : DEnv} {i : Nat} {o : Option Slot}, ρ[i]? = some o → ∀ k ∈ subE1 o, k ∈ subE ρ
  | [], i, o, h => by cases h
  | x :: ρ, 0, o, h => fun k hk => by cases h; exact List.mem_append_left _ hk
  | x :: ρ, i + 1, o, h => fun k hk => List.mem_append_right _ (subE_at (ρ := ρ) (i := i) h k hk)
def Cy.ze (Y : Cy) (Ze : Addr → Prop) : Cy := { Y with Ze := Ze }
theorem Lk.ze {X : Cx} {Y : Cy} (k : Lk X Y) (Ze : Addr → Prop) : Lk X (Y.ze Ze) := ⟨k.K, k.ln, k.tk, k.rm, k.hd, k.nd, k.po, k.calm⟩
section
variable {Y : Cy} {O : Addr → Prop} {ρ : DEnv} {σ : L2.St} {H H' : Hp}
/-- only the marked names are seen: all other cells may be forbidden -/
theorem SR.keep (m : List Bool) (s : SR Y O ρ σ H) : ∃ O' Ze', (∀ a, O' a → O a) ∧ SR (Y.ze Ze') O' (keepM m ρ) σ H ∧ (∀ a, Zo Y.Ze O a → Zo Ze' O' a) ∧
    (∀ a, H a ≠ none → ¬ Zo Ze' O' a → ∀ vs, H a = some (.lst vs) → ∃ k ∈ subE (keepM m ρ), ∃ Z0, RepL Y.G Z0 H k vs) := by
  obtain ⟨α, s⟩ := s
  let O' : Addr → Prop := fun a => ∃ i, isOwn (keepM m ρ) i ∧ α i = a
  have ow : ∀ i, isOwn (keepM m ρ) i → ∃ d, (keepM m ρ)[i]? = some (some (.own d)) ∧ ρ[i]? = some (some (.own d)) := fun i ⟨d, h⟩ => by
    rcases h with h | h | h
    · exact ⟨d, h, (keepM_at m ρ i _ h).1⟩
    · rcases (keepM_at m ρ i _ h).2 with ⟨_, e⟩ | ⟨_, e⟩ <;> cases e
    · rcases (keepM_at m ρ i _ h).2 with ⟨_, e⟩ | ⟨_, e⟩ <;> cases e
  have OO : ∀ a, O' a → O a := fun a ⟨i, h, e⟩ => by
    obtain ⟨d, _, h2⟩ := ow i h
    exact (s.oeq a).mpr ⟨i, ⟨d, .inl h2⟩, e⟩
  let C : Addr → Prop := fun a => ¬ Zo Y.Ze O a ∧ H a ≠ none ∧ ∀ vs, H a = some (.lst vs) → ∃ k ∈ subE (keepM m ρ), ∃ Z0, RepL Y.G Z0 H k vs
  let Ze' : Addr → Prop := fun a => H a ≠ none ∧ ¬ C a ∧ ¬ O' a
  have cz : CzOk Y.G (Zo Y.Ze O) (Zo Ze' O') H (subE (keepM m ρ)) := fun a nz hn hl z => by
    rcases z with z | z
    · exact z.2.1 ⟨nz, hn, hl⟩
    · exact nz (.inr (OO a z))
  refine ⟨O', Ze', OO, ⟨α, ⟨by rw [keepM_len]; exact s.len, fun i d e => ?_, fun i d e => ?_, fun i d e => ?_, fun i d e => ?_, fun i j hi hj e => ?_, fun a => Iff.rfl, fun a z => z.1, fun a z => s.ot a (OO a z), PtrOk.no fun i x e hx => ?_⟩⟩, fun a z => ?_, fun a hn nz vs hv => ?_⟩
  · obtain ⟨v, e1, r⟩ := s.val i d (keepM_at m ρ i _ e).1
    exact ⟨v, e1, r.cz cz (subE_at e)⟩
  · obtain ⟨e1, n, r⟩ := s.own i d (keepM_at m ρ i _ e).1
    have Oi : O' (α i) := ⟨i, ⟨d, .inl e⟩, rfl⟩
    refine ⟨e1, fun z => z.2.2 Oi, ?_⟩
    have sb := subE_at e
    cases d with
    | lst l => obtain ⟨a, vs, e, t, r⟩ := r; exact ⟨a, vs, e, t, RepL.cz cz (fun k hk => sb k (by simp [subE1, subDs, subD, hk])) r⟩
    | dct ks l => obtain ⟨a, vs, e, t, q, r⟩ := r; exact ⟨a, vs, e, t, q, RepL.cz cz (fun k hk => sb k (by simpa [subE1, subDs, subD] using hk)) r⟩
    | obj c ks l => obtain ⟨a, dx, vs, e, t, q, r⟩ := r; exact ⟨a, dx, vs, e, t, q, RepL.cz cz (fun k hk => sb k (by simpa [subE1, subDs, subD] using hk)) r⟩
    | _ => exact Rep.cz cz (fun k hk => sb k (by simpa [subE1, subDs] using hk)) r
  · rcases (keepM_at m ρ i _ e).2 with ⟨_, e⟩ | ⟨_, e⟩ <;> cases e
  · rcases (keepM_at m ρ i _ e).2 with ⟨_, e⟩ | ⟨_, e⟩ <;> cases e
  · obtain ⟨d, _, h⟩ := ow i hi
    obtain ⟨d', _, h'⟩ := ow j hj
    exact s.inj i j ⟨d, .inl h⟩ ⟨d', .inl h'⟩ e
  · rcases (keepM_at m ρ i _ e).2 with ⟨_, e⟩ | ⟨_, e⟩ <;> subst e <;> rcases hx with h | ⟨_, h⟩ <;> cases h
  · by_cases ho : O' a
    · exact .inr ho
    · exact .inl ⟨z.elim (s.zt a) (s.ot a), fun c => c.1 z, ho⟩
  · by_cases hc : C a
    · exact hc.2.2 vs hv
    · exact absurd (show Zo Ze' O' a from by
        by_cases ho : O' a
        · exact .inr ho
        · exact .inl ⟨hn, hc, ho⟩) nz
end
theorem PE.zall {X : Cx} {Y : Cy} {e : Expr} {f : DE} (h : ∀ Ze, PE X e (tD (Y.ze Ze) f)) : PE X e (fun σ H Q => ∃ Ze, tD (Y.ze Ze) f σ H Q) := ⟨fun pins s σ H Q I ⟨Ze, q⟩ => (h Ze).run pins s σ H Q I q⟩
/-- x = e; e sees the marked names alone: its answer's list is the def's own where it is told apart from all that e saw -/
def sOwnX (i : Nat) (m : List Bool) (e : DE) : DS := fun ρ => (e (keepM m ρ)).st ρ fun d => match d with
  | .lst l => if (subDs l ++ subE (keepM m ρ)).all (neL l) then (setO i (.lst l) ρ).bind fun ρ' => .ok (.nx ρ') else (setV i (.lst l) ρ).bind fun ρ' => .ok (.nx ρ')
  | d => (setV i d ρ).bind fun ρ' => .ok (.nx ρ')
section
variable {X : Cx} {Y : Cy} {a : Expr} {fa : DE} {pos pos' : Pos}
theorem ds_ownX (m : List Bool) {i : Nat} {x : Str} (hi : X.N[i]? = some x) (hn : i < Y.n) (hx : Loc X.env.scope x) (ha : ∀ Ze, PD X (Y.ze Ze) a fa) (hs : swapsWith a (some (.Name x pos')) pos.line X.env = pure false := by rfl) (hf : X.fn x = true ∨ X.env.scope.names.lookup x = some .local := by first | exact .inl rfl | exact .inr rfl | assumption) :
    PDS X Y (.Assign [.Name x pos'] a pos) (sOwnX i m fa) := fun k => impPS (ps_set k.nd hi hx (PE.zall fun Ze => ha Ze (k.ze Ze)) hs hf) fun N σ H ⟨O, ρ, s, q⟩ => by
  obtain ⟨O', Ze', OO, s', zz, fr⟩ := s.keep m
  refine ⟨Ze', O', keepM m ρ, s', ?_⟩
  unfold sOwnX at q
  cases ea : fa (keepM m ρ) with
  | no => rw [ea] at q; exact q
  | ex e =>
    rw [ea] at q
    intro c od H' sm xr
    obtain ⟨e1, d, us, e2, e3, e4, e5⟩ := xr
    exact q O σ H' c od (Stp.same sm) (s.same sm) ⟨e1, d, us, e2, e3, e4, e5.weak zz⟩
  | ok d =>
    rw [ea] at q
    simp only [R.st_ok] at q
    intro v H' sm r
    have rv : Rep Y.G (Zo Y.Ze O) H' d v := r.weak zz
    have setv : SPost Y O H N ((setV i d ρ).bind fun ρ' => .ok (.nx ρ')) → N.nx (σ.set i (some v)) H' := fun q => by
      cases es : setV i d ρ with
      | no => rw [es] at q; exact q.elim
      | ex e => exact (setV_no es).elim
      | ok ρ' =>
        rw [es] at q
        obtain ⟨O2, st, s2, _⟩ := (s.same sm).setv es hn rv
        exact q O2 _ H' ((Stp.same sm).trans st) s2
    cases d with
    | lst l =>
      simp only at q
      split at q
      · rename_i hne
        obtain ⟨p, vs, rfl, nz, t, rl⟩ := r
        have h0 : H p = none := by
          by_cases h0 : H p = none
          · exact h0
          · obtain ⟨o, ho⟩ := Option.ne_none_iff_exists'.mp h0
            have t2 := sm _ _ ho
            rw [t] at t2
            cases t2
            obtain ⟨k, hk, Z0, rk⟩ := fr p h0 nz vs ho
            exact (neL_ne rl (rk.same sm) (List.all_eq_true.mp hne k (List.mem_append_right _ hk))).elim
        cases es : setO i (.lst l) ρ with
        | no => rw [es] at q; exact q.elim
        | ex e => exact (setO_no es).elim
        | ok ρ' =>
          rw [es] at q
          have cz : CzOk Y.G (Zo Ze' O') (fun a => Zo Y.Ze O a ∨ a = p) H' (subDs l) := fun a nz hn hl z => by
            rcases z with z | rfl
            · exact nz (zz a z)
            · obtain ⟨k, hk, Z0, rk⟩ := hl vs t
              exact neL_ne rl rk (List.all_eq_true.mp hne k (List.mem_append_left _ hk))
          obtain ⟨O2, st, s2⟩ := s.seto es hn sm h0 (by rw [t]; exact fun z => by cases z) ⟨p, vs, rfl, t, RepL.cz cz (fun k hk => hk) rl⟩
          exact q O2 _ H' st s2
      · exact setv q
    | _ => exact setv q
end
end Tw
namespace Tw
open PySem PySem.Spec L2
open PyProof.Rows hiding St
/-- x.clear(), x the def's own list, or an empty one -/
def sClearE (i : Nat) : DS := fun ρ => match ρ[i]? with
  | some (some (.own (.lst _))) => .ok (.nx (ρ.set i (some (.own (.lst [])))))
  | some (some (.val (.lst []))) => .ok (.nx ρ)
  | _ => .no
section
variable {X : Cx} {Y : Cy} {x : Str} {p apos cpos pos : Pos}
theorem ds_clearE {i : Nat} (hN : X.N[i]? = some x) (hv : Vis X.env.scope x := by first | exact Or.inl rfl | exact Or.inr (Or.inl rfl) | exact Or.inr (Or.inr rfl)) (hd : (x == ("__debug__" : Str)) = false := by decide) (hcd : (x == ("__classdict__" : Str)) = false := by decide)
    (hbase : attributeBase (.Name x p) "clear" X.env (eval (.Name x p) X.env) = eval (.Name x p) X.env := by rfl) (hline : (apos.endLine == cpos.line) = true := by rfl)
    (hsw : swapsWith (.Call (.Attribute (.Name x p) "clear" apos) [] [] cpos) none pos.line X.env = pure false := by rfl) :
    PDS X Y (.Expr (.Call (.Attribute (.Name x p) "clear" apos) [] [] cpos) pos) (sClearE i) := fun k => by
  refine impPS (ps_expr (pe_bm0 PySem.F.plainAttrs_list PySem.F.slot_list_clear PySem.F.type_list_clear mt_clear (pe_var hN hv hd hcd) hbase hline) hsw) fun N σ H ⟨O, ρ, s, q⟩ => ?_
  unfold sClearE at q
  split at q
  · rename_i l hi
    obtain ⟨pl, hp, Op, rl⟩ := own_at s hi
    obtain ⟨_, vs, e, hl, rv⟩ := rl
    cases e
    refine ⟨.ref pl, hp, .inl ⟨rfl, vs, SqL.of hl⟩, pl, vs, rfl, rfl, hl, ?_⟩
    exact q O σ _ (Stp.own Op) (s.write (d' := .lst []) (o := .lst []) hi hp ⟨pl, _, rfl, upd_same, rfl⟩)
  · rename_i hi
    obtain ⟨α, s'⟩ := id s
    obtain ⟨v, hp, pl, vs, rfl, nz, hl, rl⟩ := s'.val i _ hi
    obtain rfl : vs = [] := rl
    refine ⟨.ref pl, hp, .inl ⟨rfl, [], SqL.of hl⟩, pl, [], rfl, rfl, hl, ?_⟩
    have e : upd H pl (.lst []) = H := by
      funext a
      by_cases h : a = pl
      · subst h; rw [upd_same, hl]
      · rw [upd_ne h]
    rw [e]
    exact q O σ H Stp.refl s
  · exact q.elim
end
end Tw

set_option maxHeartbeats 2000000
namespace Tw
open PySem PySem.Spec L2
open PyProof.Rows hiding St
section
variable {X : Cx} {pins : List (Addr × Obj)} {σ : L2.St} {H : Hp} {s : Shared}
end
end Tw
namespace Tw
open PySem PySem.Spec L2
open PyProof.Rows hiding St
section
variable {X : Cx} {pins : List (Addr × Obj)} {σ : L2.St} {H : Hp} {s s1 : Shared}
end
end Tw

set_option maxHeartbeats 2000000
namespace Tw
open PySem PySem.Spec L2
open PyProof.Rows hiding St
section
variable {X : Cx} {Y : Cy} {e e2 : Expr} {es es2 : List Expr} {fs fs2 : DA} {pos pos' pos2 p p2 : Pos} {x x2 : Str} {cn cn2 : String} {ks ks2 : List Str} {j j2 : Nat}
end
end Tw

set_option maxHeartbeats 2000000
namespace Tw
open PySem PySem.Spec L2
open PyProof.Rows hiding St
section
variable {X : Cx} {Y : Cy} {a b c : Expr} {fa fb fc : DE} {apos cpos pos : Pos}
end
end Tw

set_option maxHeartbeats 2000000
namespace Tw
open PySem PySem.Spec L2
open PyProof.Rows hiding St
section
variable {P : Program} {w : World} {K : PySem.W.Frag} {mg : Str → Option Value} {base : Heap} {qual name : Str} {scope : Scope} {f cda cc C : Addr} {params : Arguments} {dV kV doc pm ct : Value} {an : Option Addr} {p0 p1 p2 apos pos pos' q1 q2 q3 q4 r1 r2 r3 r4 : Pos} {m pa pb fa fb : Str} {j k : Nat} {oc : Value} {od : Option Addr} {osl : Array (Option Value)} {fd : FuncData}
end
end Tw

set_option maxHeartbeats 2000000
namespace Tw
open PySem PySem.Spec L2
open PyProof.Rows hiding St
def eT1 (f : Str → D → Option D) (a b : DE) : DE := fun ρ => (a ρ).bind fun x => match x with
  | .str s => (b ρ).bind fun y => R.of (f s y)
  | _ => .no
def fLjust (s : Str) : D → Option D
  | .int i => if PadOk i = true then some (.str (Txt.ljust s i)) else none
  | _ => none
def fRjust (s : Str) : D → Option D
  | .int i => if PadOk i = true then some (.str (Txt.rjust s i)) else none
  | _ => none
section
variable {X : Cx} {Y : Cy} {a b : Expr} {fa fb : DE} {apos pos : Pos}
theorem pd_m1 {id : String} {name : Str} {r : V → List V → Hp → VK → Prop} {f : Str → D → Option D} (slot : PySem.Slot "str" name id) (ty : typeOf (.builtin id) = pure (.type "method_descriptor")) (rule : MtR X id r)
    (hr : ∀ (Z : Addr → Prop) (H : Hp) (s : Str) (y : V) (dy : D) (Q : VK), (∀ a, Z a → H a ≠ none) → RepW Y.G Z H dy y → OPost Y.G Z H Q (f s dy) → r (.str s) [y] H Q) (ha : PDw X Y a fa) (hb : PDw X Y b fb) (hs : starEach [b] X.env = [(false, eval b X.env)] := by rfl)
    (hbase : attributeBase a name X.env (eval a X.env) = eval a X.env := by rfl) (hline : (apos.endLine == pos.line) = true := by rfl) : PD X Y (.Call (.Attribute a name apos) [b] [] pos) (eT1 f fa fb) := fun k => by
  refine impPE (pe_m1 slot ty rule (ha k) (hb k) hs hbase hline) fun σ H Q ⟨O, ρ, s, q⟩ => ?_
  refine ⟨O, ρ, s, ?_⟩
  unfold eT1 at q
  cases ea : fa ρ with
  | ex e => rw [ea] at q; exact q
  | no => rw [ea] at q; exact q
  | ok dx =>
    rw [ea] at q
    simp only [R.bind_ok] at q
    intro x H1 s1 rx
    cases dx with
    | str t =>
      obtain rfl : x = .str t := rx
      refine ⟨⟨t, rfl⟩, O, ρ, s.same s1, ?_⟩
      cases eb : fb ρ with
      | ex e => rw [eb] at q; exact ex_fwd s1 q
      | no => rw [eb] at q; exact q
      | ok dy =>
        rw [eb] at q
        simp only [R.bind_ok] at q
        intro y H2 s2 ry
        refine hr (Zo Y.Ze O) H2 t y dy Q ((s.same (s1.trans s2)).zt) ry ?_
        have q : EPost Y O σ H Q (R.of (f t dy)) := q
        cases ef : f t dy with
        | none => rw [ef] at q; exact q
        | some d => rw [ef] at q; exact fun v H3 s3 rv => q v H3 (s1.trans (s2.trans s3)) rv
    | _ => exact q.elim
theorem pd_ljust (ha : PDw X Y a fa) (hb : PDw X Y b fb) (hs : starEach [b] X.env = [(false, eval b X.env)] := by rfl) (hbase : attributeBase a "ljust" X.env (eval a X.env) = eval a X.env := by rfl) (hline : (apos.endLine == pos.line) = true := by rfl) : PD X Y (.Call (.Attribute a "ljust" apos) [b] [] pos) (eT1 fLjust fa fb) :=
  pd_m1 PySem.F.slot_str_ljust PySem.F.type_str_ljust mt_ljust (fun Z H s y dy Q zt ry q => by
    cases dy with
    | int i =>
      obtain rfl : y = .int i := ry
      simp only [fLjust] at q
      split at q
      · rename_i h; exact ⟨s, i, rfl, rfl, h, q _ H (Same.refl H) rfl⟩
      · exact q.elim
    | _ => exact q.elim) ha hb hs hbase hline
theorem pd_rjust (ha : PDw X Y a fa) (hb : PDw X Y b fb) (hs : starEach [b] X.env = [(false, eval b X.env)] := by rfl) (hbase : attributeBase a "rjust" X.env (eval a X.env) = eval a X.env := by rfl) (hline : (apos.endLine == pos.line) = true := by rfl) : PD X Y (.Call (.Attribute a "rjust" apos) [b] [] pos) (eT1 fRjust fa fb) :=
  pd_m1 PySem.F.slot_str_rjust PySem.F.type_str_rjust mt_rjust (fun Z H s y dy Q zt ry q => by
    cases dy with
    | int i =>
      obtain rfl : y = .int i := ry
      simp only [fRjust] at q
      split at q
      · rename_i h; exact ⟨s, i, rfl, rfl, h, q _ H (Same.refl H) rfl⟩
      · exact q.elim
    | _ => exact q.elim) ha hb hs hbase hline
end
end Tw

set_option maxHeartbeats 0
namespace Tw
open PySem PySem.Spec PyProof.Rows L2
def top (i : Nat) : Stmt := PySem.Challenge.pw_twicebased_k12_listing.main.body.getD i (.Pass ⟨0, 0, 0, 0⟩)
abbrev PG : Program := PySem.Challenge.pw_twicebased_k12_listing
def fb : List FrB := [smB "Titled" "is_word", pmB "Declaring" "__init__", pmB "Titled" "__init__", fun K => PySem.W.notFirst K (He.ga K "Kind") (.ref (He.ga K "Kind")), xcB PG "DuplicateBase" "DuplicateBase.__init__", oexB "DuplicateBase", xnB "DuplicateBase" "title", xcB PG "DuplicateClass" "DuplicateClass.__init__", oexB "DuplicateClass", xnB "DuplicateClass" "title", xcB PG "DuplicateName" "DuplicateName.__init__", oexB "DuplicateName", xnB "DuplicateName" "name", xcB PG "InvalidWord" "InvalidWord.__init__", oexB "InvalidWord", xnB "InvalidWord" "word", xcB PG "UnknownClass" "UnknownClass.__init__", oexB "UnknownClass", xnB "UnknownClass" "title"]
def fx : List DefX := [⟨"DuplicateBase", "__init__", "DuplicateBase.__init__", defArgs (L2.inClass (top 5) 0), defBody (L2.inClass (top 5) 0), defScope (L2.inClass (top 5) 0)⟩, ⟨"DuplicateClass", "__init__", "DuplicateClass.__init__", defArgs (L2.inClass (top 6) 0), defBody (L2.inClass (top 6) 0), defScope (L2.inClass (top 6) 0)⟩, ⟨"DuplicateName", "__init__", "DuplicateName.__init__", defArgs (L2.inClass (top 4) 0), defBody (L2.inClass (top 4) 0), defScope (L2.inClass (top 4) 0)⟩, ⟨"InvalidWord", "__init__", "InvalidWord.__init__", defArgs (L2.inClass (top 3) 0), defBody (L2.inClass (top 3) 0), defScope (L2.inClass (top 3) 0)⟩, ⟨"UnknownClass", "__init__", "UnknownClass.__init__", defArgs (L2.inClass (top 7) 0), defBody (L2.inClass (top 7) 0), defScope (L2.inClass (top 7) 0)⟩]
def fn0 : List He5.DefA := [⟨gAd "_law_row", "_law_row", "_law_row", defArgs (top 30), defBody (top 30), defScope (top 30), [], []⟩,
  ⟨gAd "_law_cell", "_law_cell", "_law_cell", defArgs (top 29), defBody (top 29), defScope (top 29), [], []⟩,
  ⟨gAd "_law_dense", "_law_dense", "_law_dense", defArgs (top 32), defBody (top 32), defScope (top 32), [], []⟩,
  ⟨gAd "_law_word", "_law_word", "_law_word", defArgs (top 31), defBody (top 31), defScope (top 31), [], []⟩,
  ⟨sAd "Titled" "is_word", "is_word", "Titled.is_word", defArgs (L2.inClass (top 17) 1), defBody (L2.inClass (top 17) 1), defScope (L2.inClass (top 17) 1), [], []⟩,
  ⟨mAd "Titled" "__init__", "__init__", "Titled.__init__", defArgs (L2.inClass (top 17) 0), defBody (L2.inClass (top 17) 0), defScope (L2.inClass (top 17) 0), [], []⟩,
  ⟨mAd "Declaring" "__init__", "__init__", "Declaring.__init__", defArgs (L2.inClass (top 19) 0), defBody (L2.inClass (top 19) 0), defScope (L2.inClass (top 19) 0), [], []⟩,
  ⟨mAd "Kind" "__init__", "__init__", "Kind.__init__", defArgs (L2.inClass (top 22) 0), defBody (L2.inClass (top 22) 0), defScope (L2.inClass (top 22) 0), [], []⟩,
  ⟨mAd "Library" "admit", "admit", "Library.admit", defArgs (L2.inClass (top 27) 1), defBody (L2.inClass (top 27) 1), defScope (L2.inClass (top 27) 1), [], []⟩,
  ⟨mAd "Library" "__init__", "__init__", "Library.__init__", defArgs (L2.inClass (top 27) 0), defBody (L2.inClass (top 27) 0), defScope (L2.inClass (top 27) 0), [.adr (dfAd "Library" "__init__" 0)], []⟩,
  ⟨mAd "Base" "__init__", "__init__", "Base.__init__", defArgs (L2.inClass (top 18) 0), defBody (L2.inClass (top 18) 0), defScope (L2.inClass (top 18) 0), [.bl false], []⟩,
  ⟨mAd "Draft" "__init__", "__init__", "Draft.__init__", defArgs (L2.inClass (top 20) 0), defBody (L2.inClass (top 20) 0), defScope (L2.inClass (top 20) 0), [], [("names", .adr (kwAd "Draft" "__init__" "names")), ("statics", .adr (kwAd "Draft" "__init__" "statics")), ("bases", .adr (kwAd "Draft" "__init__" "bases"))]⟩,
  ⟨gAd "_law_drafts", "_law_drafts", "_law_drafts", defArgs (top 33), defBody (top 33), defScope (top 33), [], []⟩,
  ⟨gAd "_law_shared", "_law_shared", "_law_shared", defArgs (top 34), defBody (top 34), defScope (top 34), [], []⟩,
  ⟨gAd "_law_above", "_law_above", "_law_above", defArgs (top 35), defBody (top 35), defScope (top 35), [], []⟩,
  ⟨gAd "_law_counts", "_law_counts", "_law_counts", defArgs (top 36), defBody (top 36), defScope (top 36), [], []⟩,
  ⟨gAd "_law_commas", "_law_commas", "_law_commas", defArgs (top 37), defBody (top 37), defScope (top 37), [], []⟩,
  ⟨mAd "Library" "__getitem__", "__getitem__", "Library.__getitem__", defArgs (L2.inClass (top 27) 4), defBody (L2.inClass (top 27) 4), defScope (L2.inClass (top 27) 4), [], []⟩,
  ⟨mAd "Library" "__iter__", "__iter__", "Library.__iter__", defArgs (L2.inClass (top 27) 2), defBody (L2.inClass (top 27) 2), defScope (L2.inClass (top 27) 2), [], []⟩,
  ⟨mAd "Kind" "__le__", "__le__", "Kind.__le__", defArgs (L2.inClass (top 22) 2), defBody (L2.inClass (top 22) 2), defScope (L2.inClass (top 22) 2), [], []⟩]
def fn1 : List He5.DefA := [⟨mAd "Library" "__contains__", "__contains__", "Library.__contains__", defArgs (L2.inClass (top 27) 3), defBody (L2.inClass (top 27) 3), defScope (L2.inClass (top 27) 3), [], []⟩,
  ⟨gAd "own_way_counts", "own_way_counts", "own_way_counts", defArgs (top 10), defBody (top 10), defScope (top 10), [], []⟩,
  ⟨gAd "count_copies", "count_copies", "count_copies", defArgs (top 11), defBody (top 11), defScope (top 11), [], []⟩,
  ⟨gAd "listing", "listing", "listing", defArgs (top 12), defBody (top 12), defScope (top 12), [], []⟩,
  ⟨gAd "law", "law", "law", defArgs (top 38), defBody (top 38), defScope (top 38), [], []⟩]
def fa0 : List He.Fa := [.free "abs", .free "int", .free "isinstance", .free "iter", .free "len", .free "list", .free "range", .free "str", .free "sum", .free "super", .free "tuple", .str "DIGITS" "0123456789", .str "LETTERS" "ABCDEFGHIJKLMNOPQRSTUVWXYZabcdefghijklmnopqrstuvwxyz", .int "LONGEST" 8, .glo "Base", .glo "Declaring", .glo "Draft", .glo "DuplicateBase", .glo "DuplicateClass", .glo "DuplicateName", .glo "InvalidWord", .glo "Kind", .glo "Library", .glo "Titled", .glo "UnknownClass", .glo "_law_above", .glo "_law_cell", .glo "_law_commas", .glo "_law_counts", .glo "_law_dense"]
def fa1 : List He.Fa := [.glo "_law_drafts", .glo "_law_row", .glo "_law_shared", .glo "_law_word", .glo "count_copies", .glo "law", .glo "listing", .glo "own_way_counts", .cls "Base", .noat "Base" "title", .noat "Base" "is_shared", .cls "Draft", .noat "Draft" "title", .noat "Draft" "names", .noat "Draft" "statics", .noat "Draft" "bases", .cls "Kind", .noat "Kind" "title", .noat "Kind" "names", .noat "Kind" "statics", .noat "Kind" "bases", .noat "Kind" "above", .noat "Kind" "shared_bases", .cls "Library", .noat "Library" "kinds", .noat "Library" "places", .noat "Library" "names", .mkr "Base", .mkr "Draft", .mkr "Kind"]
def fa2 : List He.Fa := [.mkr "Library", .meth "Kind" "__le__", .meth "Library" "__contains__", .meth "Library" "__getitem__", .meth "Library" "__iter__", .meth "Library" "admit"]
def nm0 : List Str := ["_wall", "HierarchyError", "InvalidWord", "DuplicateName", "DuplicateBase", "DuplicateClass", "UnknownClass", "InvalidLine", "own_way_counts", "count_copies", "listing", "LETTERS", "DIGITS", "LONGEST", "Titled", "Base", "Declaring", "Draft", "Kind", "parsed_head", "parsed_tail", "parsed_line", "written_line", "Library", "_law_cell", "_law_row", "_law_word", "_law_dense", "_law_drafts", "_law_shared"]
def nm1 : List Str := ["_law_above", "_law_counts", "_law_commas"]
def fn : List He5.DefA := fn0 ++ (fn1)
def fa : List He.Fa := fa0 ++ (fa1 ++ (fa2))
def nm : List Str := nm0 ++ (nm1)
abbrev RW : PySem.W.OpenRow := PySem.W.OpenLaw.row PySem.Challenge.rw_twicebased_k12_listing
abbrev hkT : PySem.W.Hook := hookX 5 fb fa fn fx
def obT (s : PySem.W.SharedT) : AlX := obsXG 5 fb fa fn fx (HandSHeadRun.getT s)
theorem obT_eq (s : PySem.W.SharedT) : obT s = hkT.obs s.abs := obsXG_eq (HandSHeadRun.getT_eq s)
theorem runT (w : World) : HandSHeadRun.RunEq RW (PySem.W.view RW.prog [38]) hkT obT 30000 nm w := by
  intro os
  kernel_rfl
end Tw

set_option maxHeartbeats 2000000
namespace Tw
open PySem PyProof.Rows
open Sem (wp)
open Builtin Builtin.Str Builtin.Int Builtin.Float
def sp26 : Str := ⟨#[62, 50, 54, 44]⟩
def sp8 : Str := ⟨#[60, 56]⟩
/-- digits in threes, from behind -/
def grpR : List Nat → List Nat
  | a :: b :: c :: d :: l => a :: b :: c :: 44 :: grpR (d :: l)
  | l => l
def cmsL (ds : List Nat) : List Nat := (grpR ds.reverse).reverse
def cmsS (ds : List Nat) : Str := ⟨(List.replicate (26 - (cmsL ds).length) 32 ++ cmsL ds).toArray⟩
theorem fmt_open (x : Int) (t u : Tok) (hx : decide (x < 0) = false) {ds : List Char} (hd : Nat.toDigits 10 x.natAbs = ds) (h1 : 0 < ds.length) (h2 : ds.length ≤ 19) : ∃ K : Option Nat → Sem Fin, («int.__format__» ⟨[.int x t, .str sp26 u], []⟩ = (typeNameOf (.str sp26 u) >>= fun _ => typeNameOfCut 200 (.int x t) >>= fun _ => overDigitLimit? x >>= K)) ∧ K none = (Made.str (cmsS (ds.map Char.toNat))).tree := by
  refine ⟨_, rfl, ?_⟩
  show retStr _ = _
  rw [hx, hd]
  cases ds with
  | nil => exact absurd h1 (Nat.lt_irrefl _)
  | cons _ ds =>
  cases ds with
  | nil => kernel_rfl
  | cons _ ds =>
  cases ds with
  | nil => kernel_rfl
  | cons _ ds =>
  cases ds with
  | nil => kernel_rfl
  | cons _ ds =>
  cases ds with
  | nil => kernel_rfl
  | cons _ ds =>
  cases ds with
  | nil => kernel_rfl
  | cons _ ds =>
  cases ds with
  | nil => kernel_rfl
  | cons _ ds =>
  cases ds with
  | nil => kernel_rfl
  | cons _ ds =>
  cases ds with
  | nil => kernel_rfl
  | cons _ ds =>
  cases ds with
  | nil => kernel_rfl
  | cons _ ds =>
  cases ds with
  | nil => kernel_rfl
  | cons _ ds =>
  cases ds with
  | nil => kernel_rfl
  | cons _ ds =>
  cases ds with
  | nil => kernel_rfl
  | cons _ ds =>
  cases ds with
  | nil => kernel_rfl
  | cons _ ds =>
  cases ds with
  | nil => kernel_rfl
  | cons _ ds =>
  cases ds with
  | nil => kernel_rfl
  | cons _ ds =>
  cases ds with
  | nil => kernel_rfl
  | cons _ ds =>
  cases ds with
  | nil => kernel_rfl
  | cons _ ds =>
  cases ds with
  | nil => kernel_rfl
  | cons _ ds =>
  cases ds with
  | nil => kernel_rfl
  | cons _ ds =>
  exact absurd h2 (by simp only [List.length_cons]; omega)
theorem gives_fmt26 (x : Int) (t u : Tok) (h0 : 0 ≤ x) (hl : x.natAbs.log2 < 1920) (h1 : 0 < (Nat.toDigits 10 x.natAbs).length) (h2 : (Nat.toDigits 10 x.natAbs).length ≤ 19) : Gives («int.__format__» ⟨[.int x t, .str sp26 u], []⟩) (.str (cmsS ((Nat.toDigits 10 x.natAbs).map Char.toNat))) := by
  obtain ⟨K, e, k⟩ := fmt_open x t u (decide_eq_false (by omega)) rfl h1 h2
  have eo : overDigitLimit? x = pure none := by unfold overDigitLimit?; rw [if_pos hl]
  have e2 : (overDigitLimit? x >>= K) = (Made.str (cmsS ((Nat.toDigits 10 x.natAbs).map Char.toNat))).tree := by rw [eo]; exact k
  rw [e, e2]
  refine gives_after_typeNameOf (T := "str") (fun s => typeIs_str s _ _) (by decide) fun _ => .of_eq rfl
/-- a text, eight wide -/
def ljS (x : Str) : Str := ⟨(x.cps.toList ++ List.replicate (8 - x.cps.size) 32).toArray⟩
theorem fmt8_open (x : Str) (t u : Tok) (hx : x.cps.size < 8) : «str.__format__» ⟨[.str x t, .str sp8 u], []⟩ = (Made.str (ljS x)).tree := by
  obtain ⟨⟨l⟩⟩ := x
  have hx : l.length < 8 := hx
  cases l with
  | nil => kernel_rfl
  | cons _ l =>
  cases l with
  | nil => kernel_rfl
  | cons _ l =>
  cases l with
  | nil => kernel_rfl
  | cons _ l =>
  cases l with
  | nil => kernel_rfl
  | cons _ l =>
  cases l with
  | nil => kernel_rfl
  | cons _ l =>
  cases l with
  | nil => kernel_rfl
  | cons _ l =>
  cases l with
  | nil => kernel_rfl
  | cons _ l =>
  cases l with
  | nil => kernel_rfl
  | cons _ l =>
  exact absurd hx (by simp only [List.length_cons]; omega)
theorem fmt8s_open (x : Str) (t u : Tok) (hx : x.cps.size = 8) : «str.__format__» ⟨[.str x t, .str sp8 u], []⟩ = (do rule "str.__format__.unchanged"; ret (.str x t)) := by
  obtain ⟨⟨l⟩⟩ := x
  have hx : l.length = 8 := hx
  obtain ⟨a0, a1, a2, a3, a4, a5, a6, a7, rfl⟩ : ∃ a0 a1 a2 a3 a4 a5 a6 a7, l = [a0, a1, a2, a3, a4, a5, a6, a7] := by
    match l, hx with
    | [a0, a1, a2, a3, a4, a5, a6, a7], _ => exact ⟨a0, a1, a2, a3, a4, a5, a6, a7, rfl⟩
  kernel_rfl
theorem gives_fmt8 (x : Str) (t u : Tok) (hx : x.cps.size < 8) : Gives («str.__format__» ⟨[.str x t, .str sp8 u], []⟩) (.str (ljS x)) := Gives.of_eq (fmt8_open x t u hx)
theorem gives_fmt8s (x : Str) (t u : Tok) (hx : x.cps.size = 8) : Gives («str.__format__» ⟨[.str x t, .str sp8 u], []⟩) (.val (.str x t)) := by
  rw [fmt8s_open x t u hx]
  exact .rule (Gives.of_eq rfl)
end Tw

set_option maxHeartbeats 2000000
namespace Tw
open PySem PySem.Spec L2
open PyProof.Rows hiding St
section
variable {prog : Program} {w : World} {A : Around} {E : Value → Shared → Prop} {s : Shared}
theorem ff_int {x : Int} {t : Tok} {Q : Value → Shared → Prop} (h0 : 0 ≤ x) (hl : x.natAbs.log2 < 1920) (h1 : 0 < (Nat.toDigits 10 x.natAbs).length) (h2 : (Nat.toDigits 10 x.natAbs).length ≤ 19) (hz : (cmsS ((Nat.toDigits 10 x.natAbs).map Char.toNat)).length ≤ sizeLine)
    (h : Q (.str (cmsS ((Nat.toDigits 10 x.natAbs).map Char.toNat)) (s.toks + 1)) { s with toks := s.toks + 1 + 1 }) : wpAny (model prog w) A (formatField (.int x t) sp26) Q E s :=
  wpAny_formatField_spec (by decide) (fun s' => typeIs_int s' x t) PySem.F.slot_int_format PySem.F.entry_int_format PySem.F.args_int_format_2 (fun u => gives_fmt26 x t u h0 hl h1 h2) h (by decide) hz
theorem ff_same {x : Str} {t : Tok} {Q : Value → Shared → Prop} (hx : x.cps.size = 8) (h : Q (.str x t) { s with toks := s.toks + 1 }) : wpAny (model prog w) A (formatField (.str x t) sp8) Q E s := by
  have e : formatField (.str x t) sp8 = holding [.str x t] (pyFormat (.str x t) sp8) := by
    unfold formatField
    rfl
  rw [e]
  refine wpAny_holding ?_
  unfold pyFormat
  refine wpAny_bind (wpAny_mkStr ?_ (by decide))
  refine wpAny_bind (m := callSpecial? (.str x t) (Str.ofString "__format__") [.str sp8 s.toks]) (wpAny_callSpecial?_slot (name := Str.ofString "__format__") (typeIs_str _ x t) PySem.F.slot_str_format
    (call_gives PySem.F.slot_str_format (typeIs_str _ x t) PySem.F.entry_str_format (PySem.F.args_str_format_2 _ _) (gives_fmt8s x t s.toks hx) ?_))
  exact wpAny_bind (wpAny_isInstance (T := "str") (b := true) rfl isSubtype_str_str (wpAny_pure h))
theorem ff_str {x : Str} {t : Tok} {Q : Value → Shared → Prop} (hx : x.cps.size < 8) (hz : (ljS x).length ≤ sizeLine) (h : Q (.str (ljS x) (s.toks + 1)) { s with toks := s.toks + 1 + 1 }) : wpAny (model prog w) A (formatField (.str x t) sp8) Q E s :=
  wpAny_formatField_spec (by decide) (fun s' => typeIs_str s' x t) PySem.F.slot_str_format PySem.F.entry_str_format PySem.F.args_str_format_2 (fun u => gives_fmt8 x t u hx) h (by decide) hz
end
theorem ljS_8 {x : Str} (hx : x.cps.size = 8) : ljS x = x := by
  obtain ⟨⟨l⟩⟩ := x
  have hx : l.length = 8 := hx
  unfold ljS
  show (⟨(l ++ List.replicate (8 - l.length) 32).toArray⟩ : Str) = ⟨⟨l⟩⟩
  rw [hx, show (8 - 8 : Nat) = 0 from rfl, List.replicate_zero, List.append_nil]
section
variable {X : Cx}
def tFmt8 (te : TE) : TE := fun σ H Q => te σ H fun x H1 => ∃ y : Str, x = .str y ∧ y.cps.size ≤ 8 ∧ (ljS y).length ≤ sizeLine ∧ Q (.str (ljS y)) H1
def tFmt26 (te : TE) : TE := fun σ H Q => te σ H fun x H1 => ∃ i : Int, x = .int i ∧ 0 ≤ i ∧ i.natAbs.log2 < 1920 ∧ 0 < (Nat.toDigits 10 i.natAbs).length ∧ (Nat.toDigits 10 i.natAbs).length ≤ 19 ∧ (cmsS ((Nat.toDigits 10 i.natAbs).map Char.toNat)).length ≤ sizeLine ∧ Q (.str (cmsS ((Nat.toDigits 10 i.natAbs).map Char.toNat))) H1
theorem pe_fmt8 {e : Expr} {te : TE} {p1 p2 p3 : Pos} {k : Nat} (he : PE X e te) : PE X (.FormattedValue e (-1) (some (.JoinedStr [.Constant (.str "<8") k p1] p2)) p3) (tFmt8 te) := by
  refine ⟨fun pins s σ H Q I h => ?_⟩
  refine wpAny_FormattedValue_spec (thn (he.run pins s σ H _ I h) fun v s1 hv => ?_)
  obtain ⟨x, H1, I1, r1, y, rfl, hy, hz, q⟩ := hv
  obtain ⟨t, rfl⟩ := r1
  refine thn ((pe_joined1 pe_str).run pins s1 σ H1 (fun u H2 => u = .str sp8 ∧ H2 = H1) I1 ⟨rfl, rfl⟩) fun r s2 hr => ?_
  obtain ⟨u, H2, I2, r2, rfl, rfl⟩ := hr
  obtain ⟨t2, rfl⟩ := r2
  refine ⟨sp8, t2, rfl, ?_⟩
  by_cases h8 : y.cps.size = 8
  · rw [ljS_8 h8] at q
    exact ff_same h8 ⟨.str y, _, I2.tok _, ⟨_, rfl⟩, q⟩
  · exact ff_str (by omega) hz ⟨.str (ljS y), _, I2.tok _, ⟨_, rfl⟩, q⟩
theorem pe_fmt26 {e : Expr} {te : TE} {p1 p2 p3 : Pos} {k : Nat} (he : PE X e te) : PE X (.FormattedValue e (-1) (some (.JoinedStr [.Constant (.str ">26,") k p1] p2)) p3) (tFmt26 te) := by
  refine ⟨fun pins s σ H Q I h => ?_⟩
  refine wpAny_FormattedValue_spec (thn (he.run pins s σ H _ I h) fun v s1 hv => ?_)
  obtain ⟨x, H1, I1, r1, y, rfl, h0, hl, h1, h2, hz, q⟩ := hv
  obtain ⟨t, rfl⟩ := r1
  refine thn ((pe_joined1 pe_str).run pins s1 σ H1 (fun u H2 => u = .str sp26 ∧ H2 = H1) I1 ⟨rfl, rfl⟩) fun r s2 hr => ?_
  obtain ⟨u, H2, I2, r2, rfl, rfl⟩ := hr
  obtain ⟨t2, rfl⟩ := r2
  exact ⟨sp26, t2, rfl, ff_int h0 hl h1 h2 hz ⟨.str _, _, I2.tok _, ⟨_, rfl⟩, q⟩⟩
end
/-- the line of a class and a number, by data -/
def lineS : D → D → R D
  | .str x, .int n => if x.cps.size ≤ 8 ∧ (0 ≤ n ∧ n.natAbs.log2 < 1920 ∧ 0 < (Nat.toDigits 10 n.natAbs).length ∧ (Nat.toDigits 10 n.natAbs).length ≤ 19) ∧ ((ljS x).length ≤ 1000 ∧ (cmsS ((Nat.toDigits 10 n.natAbs).map Char.toNat)).length ≤ 1000) then .ok (.str (Str.empty ++ ljS x ++ cmsS ((Nat.toDigits 10 n.natAbs).map Char.toNat))) else .no
  | _, _ => .no
def eLine (fa fb : DE) : DE := fun ρ => (fa ρ).bind fun x => match fb ρ with
  | .ok y => lineS x y
  | _ => .no
section
variable {X : Cx} {Y : Cy} {a b : Expr} {fa fb : DE} {p1 p2 p3 p4 p5 p6 p7 : Pos} {k1 k2 : Nat}
theorem str_app_len (x y : Str) : (x ++ y).length = x.length + y.length := by
  show (x.cps ++ y.cps).size = _
  rw [Array.size_append]; rfl
theorem pd_line (ha : PD X Y a fa) (hb : PD X Y b fb) : PD X Y (.JoinedStr [.FormattedValue a (-1) (some (.JoinedStr [.Constant (.str "<8") k1 p1] p2)) p3, .FormattedValue b (-1) (some (.JoinedStr [.Constant (.str ">26,") k2 p4] p5)) p6] p7) (eLine fa fb) := fun k => impPE (pe_joined (.cons (pe_fmt8 (ha k)) (.cons (pe_fmt26 (hb k)) .nil))) fun σ H Q ⟨O, ρ, s, q⟩ => by
  unfold eLine at q
  refine ⟨O, ρ, s, ?_⟩
  cases ea : fa ρ with
  | no => rw [ea] at q; exact q
  | ex e => rw [ea] at q; exact q
  | ok d =>
    rw [ea] at q
    simp only [R.bind_ok] at q
    intro v H1 s1 r1
    cases eb : fb ρ with
    | no => rw [eb] at q; exact q.elim
    | ex e => rw [eb] at q; exact q.elim
    | ok d2 =>
      rw [eb] at q
      simp only at q
      cases d with
      | str x =>
        cases d2 with
        | int n =>
          simp only [lineS] at q
          by_cases hc : x.cps.size ≤ 8 ∧ (0 ≤ n ∧ n.natAbs.log2 < 1920 ∧ 0 < (Nat.toDigits 10 n.natAbs).length ∧ (Nat.toDigits 10 n.natAbs).length ≤ 19) ∧ ((ljS x).length ≤ 1000 ∧ (cmsS ((Nat.toDigits 10 n.natAbs).map Char.toNat)).length ≤ 1000)
          rotate_left
          · rw [if_neg hc] at q; exact q.elim
          rw [if_pos hc] at q
          obtain ⟨c1, ⟨c2, c3, c4, c5⟩, c6, c7⟩ := hc
          have r1 : v = .str x := r1
          subst r1
          refine ⟨x, rfl, c1, by rw [lineD_eq]; exact Nat.le_trans c6 (by decide), ljS x, rfl, ?_, O, ρ, s.same s1, ?_⟩
          · rw [str_app_len, lineD_eq]
            exact Nat.le_trans (show 0 + (ljS x).length ≤ 1000 by omega) (by decide)
          · rw [eb]
            intro v2 H2 s2 r2
            have r2 : v2 = .int n := r2
            subst r2
            refine ⟨n, rfl, c2, c3, c4, c5, by rw [lineD_eq]; exact Nat.le_trans c7 (by decide), _, rfl, ?_, q _ H2 (s1.trans s2) rfl⟩
            rw [str_app_len, str_app_len, lineD_eq]
            exact Nat.le_trans (show 0 + (ljS x).length + _ ≤ 2000 by omega) (by decide)
        | _ => exact q.elim
      | _ => exact q.elim
end
/-- str of a whole number -/
def oStrI : D → Option D
  | .int i => if i.natAbs.log2 < 1920 then some (.str (toString i)) else none
  | _ => none
section
variable {X : Cx} {Y : Cy} {a : Expr} {fa : DE} {pos : Pos}
theorem pd_strI {p : Pos} (hg : Gl X "str") (hm : X.mg "str" = none) (ha : PD X Y a fa) (hs : starEach (a :: []) X.env = (false, eval a X.env) :: starEach [] X.env := by rfl) : PD X Y (.Call (.Name "str" p) [a] [] pos) (e1 oStrI fa) := fun k =>
  impPE (pe_callTy call_str_int hg hm (by decide +kernel) (pa_cons (ha k) pa_nil hs) (he := hs)) fun σ H Q ⟨O, ρ, s, q⟩ => by
    refine ⟨O, ρ, s, ?_⟩
    unfold e1 at q
    cases ea : fa ρ with
    | no => rw [ea] at q; exact q
    | ex e => rw [ea] at q; exact q
    | ok d =>
      rw [ea] at q
      simp only [R.bind_ok] at q
      intro v H1 s1 r1
      cases d with
      | int i =>
        have r1 : v = .int i := r1
        subst r1
        simp only [oStrI] at q
        by_cases h : i.natAbs.log2 < 1920
        · rw [if_pos h] at q
          exact ⟨i, rfl, h, q _ H1 s1 rfl⟩
        · rw [if_neg h] at q; exact q.elim
      | _ => exact q.elim
end
end Tw

namespace Tw
open PySem
section
variable {α β : Type} {i j n : Nat} {ρ ρ' : DEnv} {x y d v : D} {o : Option Slot} {a b c e : DE} {s t : DS} {as : DA} {is vs : List Nat} {f : Str} {p q : DT} {l m : List D} {it : DI} {g : DG}
def R.seq (r : R Out) (b : DS) : R Out := match r with
  | .ok (.nx ρ) => b ρ
  | r => r
theorem sq_nx : (R.ok (Out.nx ρ)).seq t = t ρ := rfl
theorem sq_rt : (R.ok (Out.rt d ρ)).seq t = .ok (.rt d ρ) := rfl
theorem sq_bk : (R.ok (Out.bk ρ)).seq t = .ok (.bk ρ) := rfl
theorem sq_ct : (R.ok (Out.ct ρ)).seq t = .ok (.ct ρ) := rfl
theorem sq_xx {z : Ex} : (R.ok (Out.xx z ρ)).seq t = .ok (.xx z ρ) := rfl
theorem q_seq : sSeq s t ρ = (s ρ).seq t := rfl
theorem q_next : sNext ρ = .ok (.nx ρ) := rfl
theorem q_brk : sBrk ρ = .ok (.bk ρ) := rfl
theorem q_cnt : sCnt ρ = .ok (.ct ρ) := rfl
def iteS (k : Bool) (s t : DS) (ρ : DEnv) : R Out := if k then s ρ else t ρ
theorem ite_t : iteS true s t ρ = s ρ := rfl
theorem ite_f : iteS false s t ρ = t ρ := rfl
theorem q_if : sIf p s t ρ = (p ρ).st ρ fun k => iteS k s t ρ := rfl
theorem v_z : eVar 0 (some (.val d) :: ρ) = .ok d := rfl
theorem v_s : eVar (i + 1) (o :: ρ) = eVar i ρ := rfl
theorem k_zv : eLook 0 (some (.val d) :: ρ) = .ok d := rfl
theorem k_zo : eLook 0 (some (.own d) :: ρ) = .ok d := rfl
theorem k_s : eLook (i + 1) (o :: ρ) = eLook i ρ := rfl
theorem st_zn : setV 0 d (none :: ρ) = .ok (some (.val d) :: ρ) := rfl
theorem st_zv : setV 0 d (some (.val v) :: ρ) = .ok (some (.val d) :: ρ) := rfl
theorem st_zo : setV 0 d (some (.own v) :: ρ) = .ok (some (.val d) :: ρ) := rfl
theorem so_zn : setO 0 d (none :: ρ) = .ok (some (.own d) :: ρ) := rfl
theorem so_zv : setO 0 d (some (.val v) :: ρ) = .ok (some (.own d) :: ρ) := rfl
theorem so_zo : setO 0 d (some (.own v) :: ρ) = .ok (some (.own d) :: ρ) := rfl
def consR (o : Option Slot) (r : R DEnv) : R DEnv := r.bind fun ρ => .ok (o :: ρ)
theorem cr_ok : consR o (.ok ρ) = .ok (o :: ρ) := rfl
theorem st_s : setV (i + 1) d (o :: ρ) = consR o (setV i d ρ) := by
  unfold setV consR
  simp only [List.getElem?_cons_succ, List.set_cons_succ]
  cases h : ρ[i]? with
  | none => rfl
  | some o => cases o with
    | none => rfl
    | some o => cases o <;> rfl
theorem so_s : setO (i + 1) d (o :: ρ) = consR o (setO i d ρ) := by
  unfold setO consR
  simp only [List.getElem?_cons_succ, List.set_cons_succ]
  cases h : ρ[i]? with
  | none => rfl
  | some o => cases o with
    | none => rfl
    | some o => cases o <;> rfl
theorem fz_zo : frzD 0 (some (.own d) :: ρ) = some (.val d) :: ρ := rfl
theorem fz_zv : frzD 0 (some (.val d) :: ρ) = some (.val d) :: ρ := rfl
theorem fz_zn : frzD 0 (none :: ρ) = none :: ρ := rfl
theorem fz_s : frzD (i + 1) (o :: ρ) = o :: frzD i ρ := by
  unfold frzD
  simp only [List.getElem?_cons_succ, List.set_cons_succ]
  cases h : ρ[i]? with
  | none => rfl
  | some o => cases o with
    | none => rfl
    | some o => cases o <;> rfl
theorem cl_zo : clr1 0 (some (.own d) :: ρ) = none :: ρ := rfl
theorem cl_zv : clr1 0 (some (.val d) :: ρ) = none :: ρ := rfl
theorem cl_zn : clr1 0 (none :: ρ) = none :: ρ := rfl
theorem cl_s : clr1 (i + 1) (o :: ρ) = o :: clr1 i ρ := by
  unfold clr1
  simp only [List.getElem?_cons_succ, List.set_cons_succ]
  cases h : ρ[i]? with
  | none => rfl
  | some o => cases o with
    | none => rfl
    | some o => cases o <;> rfl
theorem cd_n : clrD [] ρ = ρ := rfl
theorem cd_c : clrD (i :: is) ρ = clrD is (clr1 i ρ) := rfl
def frzL (is : List Nat) (ρ : DEnv) : DEnv := is.foldl (fun r i => frzD i r) ρ
theorem fl_n : frzL [] ρ = ρ := rfl
theorem fl_c : frzL (i :: is) ρ = frzL is (frzD i ρ) := rfl
theorem q_frz : sFrz is s ρ = s (frzL is ρ) := rfl
theorem q_clr : sClr is ρ = .ok (.nx (clrD is ρ)) := rfl
theorem wp_n : wipD [] ρ = ρ := rfl
theorem wp_c : wipD (i :: is) ρ = (wipD is ρ).set i none := rfl
def ok1 (i : Nat) (ρ : DEnv) : Bool := match ρ[i]? with
  | some none => true
  | some (some (.val _)) => true
  | _ => false
theorem ow_n : okW [] ρ = true := rfl
theorem ow_c : okW (i :: is) ρ = (ok1 i ρ && okW is ρ) := rfl
theorem o1_zn : ok1 0 (none :: ρ) = true := rfl
theorem o1_zv : ok1 0 (some (.val d) :: ρ) = true := rfl
theorem o1_s : ok1 (i + 1) (o :: ρ) = ok1 i ρ := rfl
theorem t_z {o' : Option Slot} : (o :: ρ).set 0 o' = o' :: ρ := rfl
theorem t_s {o' : Option Slot} : (o :: ρ).set (i + 1) o' = o :: ρ.set i o' := rfl
theorem q_c : eC d ρ = .ok d := rfl
theorem q_e1 {h : D → Option D} : e1 h a ρ = (a ρ).bind fun x => R.of (h x) := rfl
theorem q_e2 {h : D → D → Option D} : e2 h a b ρ = (a ρ).bind fun x => (b ρ).bind fun y => R.of (h x y) := rfl
theorem q_an : aNil ρ = .ok [] := rfl
theorem q_ac : aCons a as ρ = (a ρ).bind fun x => (as ρ).bind fun xs => .ok (x :: xs) := rfl
theorem q_call {h : List D → R D} : eCall h as ρ = (as ρ).bind h := rfl
def methS (cs : List String) (h : List D → R D) (as : DA) (ρ : DEnv) (x : D) : R D := match x with
  | .obj c ks vs => if c ∈ cs then (as ρ).bind fun xs => h (.obj c ks vs :: xs) else .no
  | _ => .no
theorem q_meth {cs : List String} {h : List D → R D} : eMeth cs h a as ρ = (a ρ).bind (methS cs h as ρ) := by
  unfold eMeth methS
  cases a ρ with
  | ok x => cases x <;> rfl
  | ex e => rfl
  | no => rfl
theorem m_obj {cn : String} {h : List D → R D} {ks : List Str} {ds : List D} : methS [cn] h as ρ (.obj cn ks ds) = (as ρ).bind fun xs => h (.obj cn ks ds :: xs) := if_pos List.mem_cons_self
theorem m_obj2 {cn cm : String} {h : List D → R D} {ks : List Str} {ds : List D} : methS [cn, cm] h as ρ (.obj cn ks ds) = (as ρ).bind fun xs => h (.obj cn ks ds :: xs) := if_pos List.mem_cons_self
theorem m_obj3 {cn cm : String} {h : List D → R D} {ks : List Str} {ds : List D} : methS [cm, cn] h as ρ (.obj cn ks ds) = (as ρ).bind fun xs => h (.obj cn ks ds :: xs) := if_pos (List.mem_cons_of_mem _ List.mem_cons_self)
def seqS (mk : List D → D) (xs : List D) : R D := if xs.length ≤ lineD then .ok (mk xs) else .no
theorem q_tup : eTup as ρ = (as ρ).bind (seqS .tup) := rfl
theorem q_lst : eLst as ρ = (as ρ).bind (seqS .lst) := rfl
variable {mk : List D → D} {x0 x1 x2 x3 x4 x5 x6 x7 x8 x9 : D}
theorem sS (h : l.length ≤ 1000000) : seqS mk l = .ok (mk l) := if_pos (Nat.le_trans h (by decide))
theorem sS0 : seqS mk [] = .ok (mk []) := sS (Nat.le_of_ble_eq_true rfl)
theorem sS1 : seqS mk [x0] = .ok (mk [x0]) := sS (Nat.le_of_ble_eq_true rfl)
theorem sS2 : seqS mk [x0, x1] = .ok (mk [x0, x1]) := sS (Nat.le_of_ble_eq_true rfl)
theorem sS3 : seqS mk [x0, x1, x2] = .ok (mk [x0, x1, x2]) := sS (Nat.le_of_ble_eq_true rfl)
theorem sS4 : seqS mk [x0, x1, x2, x3] = .ok (mk [x0, x1, x2, x3]) := sS (Nat.le_of_ble_eq_true rfl)
theorem sS5 : seqS mk [x0, x1, x2, x3, x4] = .ok (mk [x0, x1, x2, x3, x4]) := sS (Nat.le_of_ble_eq_true rfl)
theorem sS6 : seqS mk [x0, x1, x2, x3, x4, x5] = .ok (mk [x0, x1, x2, x3, x4, x5]) := sS (Nat.le_of_ble_eq_true rfl)
theorem sS7 : seqS mk [x0, x1, x2, x3, x4, x5, x6] = .ok (mk [x0, x1, x2, x3, x4, x5, x6]) := sS (Nat.le_of_ble_eq_true rfl)
theorem sS8 : seqS mk [x0, x1, x2, x3, x4, x5, x6, x7] = .ok (mk [x0, x1, x2, x3, x4, x5, x6, x7]) := sS (Nat.le_of_ble_eq_true rfl)
def ifE (k : Bool) (a b : DE) (ρ : DEnv) : R D := if k then a ρ else b ρ
theorem q_ife : eIf p a b ρ = (p ρ).bind fun k => ifE k a b ρ := rfl
theorem ie_t : ifE true a b ρ = a ρ := rfl
theorem ie_f : ifE false a b ρ = b ρ := rfl
def andE (b : DE) (ρ : DEnv) (x : D) : R D := match x with | .bl true => b ρ | .bl false => .ok (.bl false) | _ => .no
def orE (b : DE) (ρ : DEnv) (x : D) : R D := match x with | .bl false => b ρ | .bl true => .ok (.bl true) | _ => .no
def notE (x : D) : R D := match x with | .bl k => .ok (.bl (!k)) | _ => .no
theorem q_and : eAnd a b ρ = (a ρ).bind (andE b ρ) := by
  unfold eAnd andE
  cases a ρ with
  | ok x => cases x <;> first | rfl | (rename_i k; cases k <;> rfl)
  | ex e => rfl
  | no => rfl
theorem q_or : eOr a b ρ = (a ρ).bind (orE b ρ) := by
  unfold eOr orE
  cases a ρ with
  | ok x => cases x <;> first | rfl | (rename_i k; cases k <;> rfl)
  | ex e => rfl
  | no => rfl
theorem q_not : eNot a ρ = (a ρ).bind notE := by
  unfold eNot notE
  cases a ρ with
  | ok x => cases x <;> rfl
  | ex e => rfl
  | no => rfl
theorem ae_t : andE b ρ (.bl true) = b ρ := rfl
theorem ae_f : andE b ρ (.bl false) = .ok (.bl false) := rfl
theorem oe_t : orE b ρ (.bl true) = .ok (.bl true) := rfl
theorem oe_f : orE b ρ (.bl false) = b ρ := rfl
theorem ne_k {k : Bool} : notE (.bl k) = .ok (.bl (!k)) := rfl
theorem q_xn : xNone ρ = .ok none := rfl
def ixS (x : D) : R (Option Int) := match x with | .int i => .ok (some i) | _ => .no
theorem q_xs : xSome a ρ = (a ρ).bind ixS := by
  unfold xSome ixS
  cases a ρ with
  | ok x => cases x <;> rfl
  | ex e => rfl
  | no => rfl
theorem xi_i {k : Int} : ixS (.int k) = .ok (some k) := rfl
theorem q_sl {lo hi : DO} : eSl a lo hi ρ = (a ρ).bind fun x => (lo ρ).bind fun l => (hi ρ).bind fun h => R.of (oSl l h x) := rfl
def tvS (x : D) : R Bool := match x with | .bl k => .ok k | _ => .no
theorem q_tv : tVal a ρ = (a ρ).bind tvS := by
  unfold tVal tvS
  cases a ρ with
  | ok x => cases x <;> rfl
  | ex e => rfl
  | no => rfl
theorem tv_b {k : Bool} : tvS (.bl k) = .ok k := rfl
theorem q_tt : tTru a ρ = (a ρ).bind fun x => R.of (truD x) := rfl
def andT (k : Bool) (q : DT) (ρ : DEnv) : R Bool := if k then q ρ else .ok false
def orT (k : Bool) (q : DT) (ρ : DEnv) : R Bool := if k then .ok true else q ρ
theorem q_ta : tAndD p q ρ = (p ρ).bind fun k => andT k q ρ := rfl
theorem q_to : tOrD p q ρ = (p ρ).bind fun k => orT k q ρ := rfl
theorem q_tn : tNotD p ρ = (p ρ).bind fun k => .ok (!k) := rfl
theorem at_t : andT true q ρ = q ρ := rfl
theorem at_f : andT false q ρ = .ok false := rfl
theorem ot_t : orT true q ρ = .ok true := rfl
theorem ot_f : orT false q ρ = q ρ := rfl
theorem q_ty : tYesD ρ = .ok true := rfl
theorem q_set : sSet i a ρ = (a ρ).st ρ fun d => (setV i d ρ).bind fun ρ' => .ok (.nx ρ') := rfl
theorem q_own : sOwn i a ρ = (a ρ).st ρ fun d => (setO i d ρ).bind fun ρ' => .ok (.nx ρ') := rfl
theorem q_asg : sAsg a g ρ = (a ρ).st ρ fun d => (g d ρ).bind fun ρ' => .ok (.nx ρ') := rfl
theorem q_drop : sDrop a ρ = (a ρ).st ρ fun _ => .ok (.nx ρ) := rfl
theorem q_ret : sRet a ρ = (a ρ).st ρ fun d => .ok (.rt d ρ) := rfl
theorem q_retn : sRetN ρ = .ok (.rt .non ρ) := rfl
def getO (i : Nat) (ρ : DEnv) : Option Slot := match ρ[i]? with | some o => o | none => none
theorem go_z : getO 0 (o :: ρ) = o := rfl
theorem go_s : getO (i + 1) (o :: ρ) = getO i ρ := rfl
def appS (i : Nat) (e : DE) (ρ : DEnv) (o : Option Slot) : R Out := match o with
  | some (.own (.lst l)) => (e ρ).st ρ fun y => if l.length < lineD then .ok (.nx (ρ.set i (some (.own (.lst (l ++ [y])))))) else .no
  | _ => .no
theorem q_app : sApp i a ρ = appS i a ρ (getO i ρ) := by
  unfold sApp appS getO
  cases h : ρ[i]? with
  | none => rfl
  | some o => cases o with
    | none => rfl
    | some o => cases o <;> first | rfl | (rename_i d; cases d <;> rfl)
def ltS {α : Type} (n : Nat) (r : R α) : R α := if n < lineD then r else .no
theorem lt_ok {r : R α} (h : n < 1000000) : ltS n r = r := if_pos (Nat.lt_trans h (by decide))
theorem ap_l : appS i a ρ (some (.own (.lst l))) = (a ρ).st ρ fun y => ltS l.length (.ok (.nx (ρ.set i (some (.own (.lst (l ++ [y]))))))) := rfl
def clrS (i : Nat) (ρ : DEnv) (o : Option Slot) : R Out := match o with
  | some (.own (.lst _)) => .ok (.nx (ρ.set i (some (.own (.lst [])))))
  | _ => .no
theorem q_clear : sClear i ρ = clrS i ρ (getO i ρ) := by
  unfold sClear clrS getO
  cases h : ρ[i]? with
  | none => rfl
  | some o => cases o with
    | none => rfl
    | some o => cases o <;> first | rfl | (rename_i d; cases d <;> rfl)
theorem cs_l : clrS i ρ (some (.own (.lst l))) = .ok (.nx (ρ.set i (some (.own (.lst []))))) := rfl
def augS (i : Nat) (h : D → D → Option D) (e : DE) (ρ : DEnv) (o : Option Slot) : R Out := match o with
  | some (.val x) => (e ρ).st ρ fun y => (R.of (h x y)).bind fun z => (setV i z ρ).bind fun ρ' => .ok (.nx ρ')
  | _ => .no
theorem q_aug {h : D → D → Option D} : sAug i h a ρ = augS i h a ρ (getO i ρ) := by
  unfold sAug augS getO
  cases e : ρ[i]? with
  | none => rfl
  | some o => cases o with
    | none => rfl
    | some o => cases o with
      | val x =>
        show R.st _ _ _ = R.st _ _ _
        congr 1
        funext y
        cases h x y <;> rfl
      | _ => rfl
theorem au_v {h : D → D → Option D} : augS i h a ρ (some (.val x)) = (a ρ).st ρ fun y => (R.of (h x y)).bind fun z => (setV i z ρ).bind fun ρ' => .ok (.nx ρ') := rfl
def fldS (i : Nat) (f : Str) (v : D) (ρ : DEnv) (o : Option Slot) : R Out := match o with
  | some (.slf d) => (R.of (putF f v d)).bind fun d' => .ok (.nx (ρ.set i (some (.slf d'))))
  | _ => .no
theorem q_fld : sFld i f a ρ = (a ρ).st ρ fun v => fldS i f v ρ (getO i ρ) := by
  unfold sFld fldS getO
  congr 1
  funext v
  cases e : ρ[i]? with
  | none => rfl
  | some o => cases o with
    | none => rfl
    | some o => cases o with
      | slf d =>
        show (match putF f v d with | some d' => _ | _ => _) = (R.of (putF f v d)).bind _
        cases putF f v d <;> rfl
      | _ => rfl
theorem fs_s : fldS i f v ρ (some (.slf d)) = (R.of (putF f v d)).bind fun d' => .ok (.nx (ρ.set i (some (.slf d')))) := rfl
theorem q_for : sFor it g is s ρ = (it ρ).st ρ fun l => forL g is s l (clrD is ρ) := rfl
def R.lp (r : R Out) (is : List Nat) (k : DEnv → R Out) : R Out := match r with
  | .ok (.nx ρ) => k (clrD is ρ)
  | .ok (.ct ρ) => k (clrD is ρ)
  | .ok (.bk ρ) => .ok (.nx ρ)
  | r => r
theorem lp_nx {k : DEnv → R Out} : (R.ok (Out.nx ρ)).lp is k = k (clrD is ρ) := rfl
theorem lp_ct {k : DEnv → R Out} : (R.ok (Out.ct ρ)).lp is k = k (clrD is ρ) := rfl
theorem lp_bk {k : DEnv → R Out} : (R.ok (Out.bk ρ)).lp is k = .ok (.nx ρ) := rfl
theorem lp_rt {k : DEnv → R Out} : (R.ok (Out.rt d ρ)).lp is k = .ok (.rt d ρ) := rfl
theorem lp_xx {k : DEnv → R Out} {z : Ex} : (R.ok (Out.xx z ρ)).lp is k = .ok (.xx z ρ) := rfl
theorem f_n : forL g is s [] ρ = .ok (.nx ρ) := rfl
theorem f_c : forL g is s (x :: l) ρ = ((g x ρ).bind s).lp is (forL g is s l) := by
  show (match (g x ρ).bind s with | .ok (.nx ρ') => _ | .ok (.ct ρ') => _ | .ok (.bk ρ') => _ | r => r) = _
  unfold R.lp
  cases (g x ρ).bind s with
  | ok o => cases o <;> rfl
  | ex e => rfl
  | no => rfl
theorem g_v : gVar i x ρ = setV i x ρ := rfl
theorem g_t : gTupD is (.tup l) ρ = gVars is l ρ := rfl
theorem g_vn : gVars [] [] ρ = .ok ρ := rfl
theorem g_vc : gVars (i :: is) (x :: l) ρ = (setV i x ρ).bind fun ρ' => gVars is l ρ' := rfl
theorem q_io : iOf a ρ = (a ρ).bind fun x => R.of (iterD x) := rfl
theorem q_ir : iRange a ρ = (a ρ).bind rngR := rfl
theorem rg_i {k : Int} (h : 0 ≤ k) (h2 : k < 1000000000) : rngR (.int k) = .ok (rangeD k) := rngR_ok (rngOk_of h h2)
theorem rg_n {k : Nat} (h2 : k < 1000000000) : rngR (.int k) = .ok ((List.range k).map fun i : Nat => .int i) := by
  rw [rg_i (Int.natCast_nonneg k) (by omega)]
  rfl
def cStep (g : DG) (c : DT) (e : DE) (ρ : DEnv) (x : D) : R (Option D) := (g x ρ).bind fun ρ' => (c ρ').bind fun k => if k then (e ρ').bind fun y => .ok (some y) else .ok none
theorem compL_fm (h : α → D) (w : α → Option D) : ∀ l : List α, (∀ x ∈ l, cStep g p e ρ (h x) = .ok (w x)) → compL g p e ρ (l.map h) = .ok (l.filterMap w)
  | [], _ => rfl
  | x :: l, hs => by
    have ih := compL_fm h w l fun y hy => hs y (List.mem_cons_of_mem _ hy)
    have h1 := hs x List.mem_cons_self
    unfold cStep at h1
    rw [List.map_cons]
    unfold compL
    cases e1 : g (h x) ρ with
    | ex z => rw [e1] at h1; cases h1
    | no => rw [e1] at h1; cases h1
    | ok ρ1 =>
      rw [e1] at h1
      simp only [R.bind_ok] at h1 ⊢
      cases e2 : p ρ1 with
      | ex z => rw [e2] at h1; cases h1
      | no => rw [e2] at h1; cases h1
      | ok k =>
        rw [e2] at h1
        simp only [R.bind_ok] at h1
        cases k with
        | false =>
          simp only [Bool.false_eq_true, if_false] at h1
          cases hw : w x with
          | none => simp only [List.filterMap_cons, hw, ih]
          | some y => rw [hw] at h1; cases h1
        | true =>
          simp only [if_true] at h1
          cases e3 : e ρ1 with
          | ex z => rw [e3] at h1; cases h1
          | no => rw [e3] at h1; cases h1
          | ok y =>
            rw [e3] at h1
            simp only [R.bind_ok] at h1
            cases hw : w x with
            | none => rw [hw] at h1; cases h1
            | some y' =>
              rw [hw] at h1
              cases h1
              simp only [List.filterMap_cons, hw, ih]
def compS (g : DG) (p : DT) (e : DE) (vs : List Nat) (ρ : DEnv) (l : List D) : R D := if l.length ≤ lineD ∧ okW vs ρ = true then (compL g p e (wipD vs ρ) l).bind fun ys => .ok (.lst ys) else .no
theorem q_comp : eComp it vs g p e ρ = (it ρ).bind (compS g p e vs ρ) := rfl
/-- a comprehension over l.map h -/
theorem comp_fm (h : α → D) (w : α → Option D) {l : List α} (hl : l.length ≤ 1000000) (ho : okW vs ρ = true) (hs : ∀ x ∈ l, cStep g p e (wipD vs ρ) (h x) = .ok (w x)) : compS g p e vs ρ (l.map h) = .ok (.lst (l.filterMap w)) := by
  unfold compS
  rw [if_pos ⟨by rw [List.length_map]; exact Nat.le_trans hl (by decide), ho, ⟩, compL_fm h w l hs]
  rfl
theorem comp_map (h : α → D) (w : α → D) {l : List α} (hl : l.length ≤ 1000000) (ho : okW vs ρ = true) (hs : ∀ x ∈ l, cStep g p e (wipD vs ρ) (h x) = .ok (some (w x))) : compS g p e vs ρ (l.map h) = .ok (.lst (l.map w)) := by
  rw [comp_fm h (fun x => some (w x)) hl ho hs]
  exact congrArg (fun z => R.ok (D.lst z)) (congrFun List.filterMap_eq_map l)
theorem comp_filter (h : α → D) (w : α → D) (pr : α → Bool) {l : List α} (hl : l.length ≤ 1000000) (ho : okW vs ρ = true) (hs : ∀ x ∈ l, cStep g p e (wipD vs ρ) (h x) = .ok (if pr x then some (w x) else none)) : compS g p e vs ρ (l.map h) = .ok (.lst ((l.filter pr).map w)) := by
  rw [comp_fm h (fun x => if pr x then some (w x) else none) hl ho hs]
  congr 2
  clear hs hl
  induction l with
  | nil => rfl
  | cons x l ih => by_cases k : pr x <;> simp [List.filterMap_cons, List.filter_cons, k, ih]
def finD (r : R Out) : R D := match r with
  | .ok (.rt d _) => .ok d
  | .ok (.nx _) => .ok .non
  | .ok (.xx e _) => .ex e
  | _ => .no
theorem fd_rt : finD (.ok (.rt d ρ)) = .ok d := rfl
theorem fd_nx : finD (.ok (.nx ρ)) = .ok .non := rfl
theorem fd_xx {z : Ex} : finD (.ok (.xx z ρ)) = .ex z := rfl
def finI (r : R Out) : R (D × D) := match r with
  | .ok (.rt d ρ) => slfP ρ d
  | .ok (.nx ρ) => slfP ρ .non
  | .ok (.xx e _) => .ex e
  | _ => .no
theorem fi_nx : finI (.ok (.nx ρ)) = slfP ρ .non := rfl
theorem fi_rt : finI (.ok (.rt d ρ)) = slfP ρ d := rfl
theorem fi_xx {z : Ex} : finI (.ok (.xx z ρ)) = .ex z := rfl
end
section
variable {i j : Int} {a b : Bool} {s t f : Str} {l m ds : List D} {k : Nat} {ks : List Str} {c : String} {ns : List Int}
theorem p_add : oAdd (.int i) (.int j) = some (.int (i + j)) := rfl
theorem p_sub : oSub (.int i) (.int j) = some (.int (i - j)) := rfl
theorem p_adds (h : s.length + t.length ≤ 1000000) : oAdd (.str s) (.str t) = some (.str (s ++ t)) := if_pos (Nat.le_trans h (by decide))
theorem p_addl (h : l.length + m.length ≤ 1000000) : oAdd (.lst l) (.lst m) = some (.lst (l ++ m)) := if_pos (Nat.le_trans h (by decide))
theorem p_addt (h : l.length + m.length ≤ 1000000) : oAdd (.tup l) (.tup m) = some (.tup (l ++ m)) := if_pos (Nat.le_trans h (by decide))
theorem p_mod (h : 0 < j) : oMod (.int i) (.int j) = some (.int (i % j)) := if_pos h
theorem p_fdiv (h : 0 < j) (h2 : j < 1073741824) : oFdiv (.int i) (.int j) = some (.int (i / j)) := if_pos ⟨h, h2⟩
theorem p_lt : oLt (.int i) (.int j) = some (.bl (decide (i < j))) := rfl
theorem p_le : oLe (.int i) (.int j) = some (.bl (decide (i ≤ j))) := rfl
theorem p_gt : oGt (.int i) (.int j) = some (.bl (decide (j < i))) := rfl
theorem p_ge : oGe (.int i) (.int j) = some (.bl (decide (j ≤ i))) := rfl
theorem p_eqi : oEq (.int i) (.int j) = some (.bl (decide (i = j))) := by
  show some (D.bl (i == j)) = _
  by_cases h : i = j <;> simp [h]
theorem p_nei : oNe (.int i) (.int j) = some (.bl (!decide (i = j))) := by
  show some (D.bl (!(i == j))) = _
  by_cases h : i = j <;> simp [h]
theorem p_eqs : oEq (.str s) (.str t) = some (.bl (s == t)) := rfl
theorem p_nes : oNe (.str s) (.str t) = some (.bl (!(s == t))) := rfl
theorem p_eqb : oEq (.bl a) (.bl b) = some (.bl (a == b)) := rfl
theorem p_neb : oNe (.bl a) (.bl b) = some (.bl (!(a == b))) := rfl
theorem p_int : oInt (.int i) = some (.int i) := rfl
theorem p_intb : oInt (.bl a) = some (.int (if a then 1 else 0)) := rfl
theorem p_neg : oNeg (.int i) = some (.int (-i)) := rfl
theorem p_lenl : oLen (.lst l) = some (.int l.length) := rfl
theorem p_lent : oLen (.tup l) = some (.int l.length) := rfl
theorem p_lenc : oLen (.scr ns) = some (.int ns.length) := rfl
theorem p_lens (h : s.length ≤ 1000000) : oLen (.str s) = some (.int s.length) := if_pos (Nat.le_trans h (by decide))
theorem p_listl : oList (.lst l) = some (.lst l) := rfl
theorem p_listt : oList (.tup l) = some (.lst l) := rfl
theorem p_tupl : oTuple (.lst l) = some (.tup l) := rfl
theorem p_tupt : oTuple (.tup l) = some (.tup l) := rfl
theorem p_max : oMax (.int i) (.int j) = some (.int (if j > i then j else i)) := rfl
theorem p_isn : oIsN .non = some (.bl true) := rfl
theorem p_isnn : oIsNotN .non = some (.bl false) := rfl
theorem p_ixl : oIx (.lst l) (.int i) = atD l i := by
  show (match atD l i with | some v => some v | none => none) = _
  cases atD l i <;> rfl
theorem p_ixt : oIx (.tup l) (.int i) = atD l i := by
  show (match atD l i with | some v => some v | none => none) = _
  cases atD l i <;> rfl
theorem p_ixc : oIx (.scr ns) (.int i) = (atD ns i).map .int := by
  show (match atD ns i with | some v => some (D.int v) | none => none) = _
  cases atD ns i <;> rfl
theorem p_ixd : oIx (.dct ks ds) (.str s) = lookD ks ds s := by
  show (match lookD ks ds s with | some v => some v | none => none) = _
  cases lookD ks ds s <;> rfl
theorem p_fld : oFld f (.obj c ks ds) = lookD ks ds f := by
  show (match lookD ks ds f with | some v => some v | none => none) = _
  cases lookD ks ds f <;> rfl
theorem p_at0 {α : Type} {x : α} {l : List α} : atD (x :: l) 0 = some x := rfl
theorem p_atn {α : Type} {l : List α} : atD l (k : Int) = l[k]? := by
  unfold atD
  rw [if_pos (Int.natCast_nonneg k), Int.toNat_natCast]
theorem p_at1 {α : Type} {l : List α} : atD l (-1) = l.getLast? := by
  unfold atD
  rw [if_neg (by decide)]
  cases l with
  | nil => rfl
  | cons x l =>
    rw [if_pos (by simp; omega), List.getLast?_eq_getElem?]
    congr 1
    simp
    omega
theorem p_trub : truD (.bl a) = some a := rfl
theorem p_trul : truD (.lst l) = some (!l.isEmpty) := rfl
theorem p_trut : truD (.tup l) = some (!l.isEmpty) := rfl
theorem p_trun : truD .non = some false := rfl
theorem p_itl : iterD (.lst l) = some l := rfl
theorem p_itt : iterD (.tup l) = some l := rfl
theorem p_isib : oIsi "bool" (.bl a) = some (.bl true) := rfl
theorem p_isit : oIsi "tuple" (.tup l) = some (.bl true) := rfl
theorem p_isil : oIsi "list" (.lst l) = some (.bl true) := rfl
theorem p_isis : oIsi "str" (.str s) = some (.bl true) := rfl
theorem p_isii : oIsi "int" (.int i) = some (.bl true) := rfl
theorem p_isibi : oIsi "bool" (.int i) = some (.bl false) := rfl
theorem b_tt : (true == true) = true := rfl
theorem b_ff : (false == false) = true := rfl
theorem b_tf : (true == false) = false := rfl
theorem b_ft : (false == true) = false := rfl
theorem nt_t : (!true) = false := rfl
theorem nt_f : (!false) = true := rfl
end
end Tw

namespace Tw
open PySem
def b_law_row_1 : DS := sSeq (sApp 3 (e2 oMod (e1 oInt (eVar 4)) (eVar 5))) (sSet 4 (e2 oFdiv (e1 oInt (eVar 4)) (eVar 5)))
def b_law_row_2 : DS := sSeq (sSet 7 (e2 oMod (e1 oInt (e2 oAdd (e2 oAdd (e2 oAdd (e2 oMul (eVar 4) (eC (.int 48271))) (e2 oMul (eVar 1) (eC (.int 7919)))) (e2 oMul (eVar 6) (eC (.int 69621)))) (eC (.int 11)))) (eC (.int 2147483647)))) (sSeq (sSet 7 (e2 oMod (e1 oInt (e2 oAdd (e2 oAdd (e2 oMul (eVar 7) (e2 oAdd (e2 oFdiv (eVar 7) (eC (.int 1024))) (eC (.int 16807)))) (eVar 4)) (eVar 6))) (eC (.int 2147483399)))) (sApp 3 (e2 oMod (e1 oInt (e2 oFdiv (eVar 7) (eC (.int 11)))) (e2 oIx (eVar 2) (eVar 6)))))
def b_law_row : DS := sSeq (sOwn 3 (eLst (aNil))) (sSeq (sSet 4 (e1 oAbs (e1 oInt (eVar 0)))) (sSeq (sIf (tVal (e2 oGe (eVar 4) (e2 oPow (eC (.int 10)) (eC (.int 18))))) (sSeq (sFor (iOf (eVar 2)) (gVar 5) [5] b_law_row_1) (sFrz [3] (sRet (eVar 3)))) (sNext)) (sSeq (sFor (iRange (e1 oLen (eVar 2))) (gVar 6) [6, 7] b_law_row_2) (sFrz [3] (sRet (eVar 3))))))
def d_law_row : List D → R D := defD 8 3 b_law_row
def b_law_cell : DS := sSeq (sIf (tVal (e2 oLt (eVar 1) (e1 oLen (eVar 0)))) (sRet (e1 oInt (e2 oIx (eVar 0) (eVar 1)))) (sNext)) (sRet (e2 oMod (e1 oInt (e2 oAdd (e2 oAdd (e2 oMul (e1 oSum (eVar 0)) (eC (.int 31))) (e2 oMul (eVar 1) (eC (.int 1009)))) (e1 oLen (eVar 0)))) (eC (.int 1000003))))
def d_law_cell : List D → R D := defD 2 2 b_law_cell
def b_law_word : DS := sSeq (sSet 2 (eC (.str "ABCDEFGHIJKLMNOPQRSTUVWXYZabcdefghijklmnopqrstuvwxyz"))) (sSeq (sSet 3 (e2 oIx (eLst (aCons (eC (.str "")) (aCons (eC (.str "q")) (aCons (eC (.str "Zx")) (aCons (eC (.str "n7w")) (aNil)))))) (e2 oMod (e1 oInt (eVar 0)) (eC (.int 4))))) (sSeq (sSet 4 (e2 oIx (eLst (aCons (eC (.str "")) (aCons (eC (.str "0")) (aCons (eC (.str "aB")) (aCons (eC (.str "9k")) (aNil)))))) (e2 oMod (e2 oFdiv (e1 oInt (eVar 0)) (eC (.int 4))) (eC (.int 4))))) (sSeq (sIf (tVal (e2 oEq (e2 oMod (e2 oFdiv (e1 oInt (eVar 0)) (eC (.int 16))) (eC (.int 2))) (eC (.int 1)))) (sSet 4 (e2 oAdd (eVar 4) (e2 oMul (eC (.str "z")) (e1 oInt (e2 oMod (e1 oInt (eVar 1)) (eC (.int 2))))))) (sNext)) (sSeq (sIf (tVal (e2 oGe (eVar 1) (eC (.int 52)))) (sSet 4 (e2 oAdd (eC (.str "y")) (eVar 4))) (sNext)) (sRet (e2 oAdd (e2 oAdd (eVar 3) (e2 oIx (eVar 2) (e2 oMod (e1 oInt (e2 oAdd (e2 oMul (eVar 1) (eC (.int 5))) (e2 oFdiv (e1 oInt (eVar 0)) (eC (.int 32))))) (eC (.int 52))))) (eVar 4)))))))
def d_law_word : List D → R D := defD 5 2 b_law_word
def b_Titled_is_word_1 : DS := sIf (tAndD (tVal (e2 oNotIn (eVar 1) (eC (.str "ABCDEFGHIJKLMNOPQRSTUVWXYZabcdefghijklmnopqrstuvwxyz")))) (tVal (e2 oNotIn (eVar 1) (eC (.str "0123456789"))))) (sRet (eC (.bl false))) (sNext)
def b_Titled_is_word : DS := sSeq (sIf (tOrD (tVal (e2 oLt (e1 oLen (eVar 0)) (eC (.int 1)))) (tOrD (tVal (e2 oGt (e1 oLen (eVar 0)) (eC (.int 8)))) (tVal (e2 oNotIn (e2 oIx (eVar 0) (eC (.int 0))) (eC (.str "ABCDEFGHIJKLMNOPQRSTUVWXYZabcdefghijklmnopqrstuvwxyz")))))) (sRet (eC (.bl false))) (sNext)) (sSeq (sFor (iOf (eVar 0)) (gVar 1) [1] b_Titled_is_word_1) (sRet (eC (.bl true))))
def d_Titled_is_word : List D → R D := defD 2 1 b_Titled_is_word
def b_Declaring_init_1 : DS := sSeq (sIf (tNotD (tTru (eCall d_Titled_is_word (aCons (eVar 4) (aNil))))) (sRaise "InvalidWord" ["word"] (aCons (eVar 4) (aNil))) (sNext)) (sSeq (sIf (tVal (e2 oIn (eVar 4) (eLook 3))) (sRaise "DuplicateName" ["name"] (aCons (eVar 4) (aNil))) (sNext)) (sApp 3 (eVar 4)))
def b_Declaring_init : DS := sSeq (sOwn 3 (eLst (aNil))) (sSeq (sFor (iOf (e2 oAdd (e1 oList (eVar 1)) (e1 oList (eVar 2)))) (gVar 4) [4] b_Declaring_init_1) (sSeq (sFld 0 "names" (e1 oTuple (eVar 1))) (sFld 0 "statics" (e1 oTuple (eVar 2)))))
def d_Declaring_init : D → List D → R (D × D) := initP 5 3 b_Declaring_init
def b_Titled_init : DS := sSeq (sIf (tNotD (tTru (eCall d_Titled_is_word (aCons (eVar 1) (aNil))))) (sRaise "InvalidWord" ["word"] (aCons (eVar 1) (aNil))) (sNext)) (sFld 0 "title" (eVar 1))
def d_Titled_init : D → List D → R (D × D) := initP 2 2 b_Titled_init
theorem e_Titled_init (s x0 : D) : d_Titled_init s [x0] = finI (b_Titled_init [some (.slf s), some (.val x0)]) := id rfl
theorem e_Declaring_init (s x0 x1 : D) : d_Declaring_init s [x0, x1] = finI (b_Declaring_init [some (.slf s), some (.val x0), some (.val x1), none, none]) := id rfl
def b_Kind_init : DS := sSeq (sInitC 0 d_Titled_init (aCons (e1 (oFld "title") (eVar 1)) (aNil))) (sSeq (sInitC 0 d_Declaring_init (aCons (e1 (oFld "names") (eVar 1)) (aCons (e1 (oFld "statics") (eVar 1)) (aNil)))) (sSeq (sFld 0 "bases" (e1 oTuple (e1 (oFld "bases") (eVar 1)))) (sSeq (sFld 0 "above" (eVar 2)) (sFld 0 "shared_bases" (eVar 3)))))
def d_Kind_init : D → List D → R (D × D) := initP 4 4 b_Kind_init
theorem e_Kind_init (s x0 x1 x2 : D) : d_Kind_init s [x0, x1, x2] = finI (b_Kind_init [some (.slf s), some (.val x0), some (.val x1), some (.val x2)]) := id rfl
def b_Library_admit_1 : DS := sPutD 2 (eVar 6) (eC (.bl true))
def b_Library_admit_2 : DS := sPutD 3 (eVar 6) (eC (.bl true))
def b_Library_admit_3 : DS := sSeq (sIf (tVal (e2 oNotIn (e1 (oFld "title") (eVar 4)) (eSelf 0 "places"))) (sRaise "UnknownClass" ["title"] (aCons (e1 (oFld "title") (eVar 4)) (aNil))) (sNext)) (sSeq (sSet 5 (e2 oIx (eSelf 0 "kinds") (e2 oIx (eSelf 0 "places") (e1 (oFld "title") (eVar 4))))) (sSeq (sPutD 2 (e1 (oFld "title") (eVar 4)) (eC (.bl true))) (sSeq (sFor (iOf (e1 (oFld "above") (eVar 5))) (gVar 6) [6] b_Library_admit_1) (sSeq (sFor (iOf (e1 (oFld "shared_bases") (eVar 5))) (gVar 6) [6] b_Library_admit_2) (sIf (tTru (e1 (oFld "is_shared") (eVar 4))) (sPutD 3 (e1 (oFld "title") (eVar 4)) (eC (.bl true))) (sNext))))))
def b_Library_admit_4 : DS := sIf (tVal (e2 oNotIn (eVar 10) (eSelf 0 "names"))) (sFld 0 "names" (e2 oAdd (eSelf 0 "names") (eTup (aCons (eVar 10) (aNil))))) (sNext)
def b_Library_admit : DS := sSeq (sIf (tVal (e2 oIn (e1 (oFld "title") (eVar 1)) (eSelf 0 "places"))) (sRaise "DuplicateClass" ["title"] (aCons (e1 (oFld "title") (eVar 1)) (aNil))) (sNext)) (sSeq (sOwn 2 (eC (.dct [] []))) (sSeq (sOwn 3 (eC (.dct [] []))) (sSeq (sFor (iOf (e1 (oFld "bases") (eVar 1))) (gVar 4) [4, 5, 6] b_Library_admit_3) (sSeq (sSet 7 (eComp (iLst (eSelf 0 "kinds")) [5] (gVar 5) (tYesD) (e1 (oFld "title") (eVar 5)))) (sSeq (sGPut 0 "places" (e1 (oFld "title") (eVar 1)) (e1 oLen (eSelf 0 "kinds"))) (sSeq (sSet 8 (e1 oTuple (eComp (iOf (eVar 7)) [6] (gVar 6) (tVal (e2 oIn (eVar 6) (eLook 2))) (eVar 6)))) (sSeq (sSet 9 (e1 oTuple (eComp (iOf (eVar 7)) [6] (gVar 6) (tVal (e2 oIn (eVar 6) (eLook 3))) (eVar 6)))) (sSeq (sGApp 0 "kinds" (eCall (mkD "Kind" d_Kind_init) (aCons (eVar 1) (aCons (eVar 8) (aCons (eVar 9) (aNil)))))) (sFor (iOf (e2 oAdd (e1 (oFld "names") (eVar 1)) (e1 (oFld "statics") (eVar 1)))) (gVar 10) [10] b_Library_admit_4)))))))))
def d_Library_admit : GD := initG 11 2 b_Library_admit
theorem e_Library_admit (s g0 g1 x0 : D) (h : okG s = true) : d_Library_admit s g0 g1 [x0] = endG (b_Library_admit ([some (.slf s), some (.val x0), none, none, none, none, none, none, none, none, none, none] ++ [some (.gho g0), some (.gho g1)])) := by unfold d_Library_admit initG; exact if_pos ⟨rfl, Nat.le_of_ble_eq_true rfl, h⟩
def b_Library_init_1 : DS := sGCallC "Library" 0 d_Library_admit (aCons (eVar 2) (aNil))
def b_Library_init : DS := sSeq (sGNew 0 "kinds" 12 (eLst (aNil))) (sSeq (sGNew 0 "places" 13 (eC (.dct [] []))) (sSeq (sFld 0 "names" (eTup (aNil))) (sFor (iOf (eVar 1)) (gVar 2) [2] b_Library_init_1)))
def d_Library_init : D → List D → R (D × D) := initQ 3 2 b_Library_init
theorem e_Library_init (s x0 : D) : d_Library_init s [x0] = outQ (endG (b_Library_init [some (.slf s), some (.val x0), none, none, none, none, none, none, none, none, none, none, none, none])) := by unfold d_Library_init initQ; exact if_pos ⟨rfl, Nat.le_of_ble_eq_true rfl⟩
def b_Draft_init_1 : DS := sSeq (sIf (tVal (e2 oIn (e1 (oFld "title") (eVar 6)) (eLook 5))) (sRaise "DuplicateBase" ["title"] (aCons (e1 (oFld "title") (eVar 6)) (aNil))) (sNext)) (sApp 5 (e1 (oFld "title") (eVar 6)))
def b_Draft_init : DS := sSeq (sInitC 0 d_Titled_init (aCons (eVar 1) (aNil))) (sSeq (sInitC 0 d_Declaring_init (aCons (eVar 2) (aCons (eVar 3) (aNil)))) (sSeq (sOwn 5 (eLst (aNil))) (sSeq (sFor (iOf (eVar 4)) (gVar 6) [6] b_Draft_init_1) (sFld 0 "bases" (e1 oTuple (eVar 4))))))
def d_Draft_init : D → List D → R (D × D) := initP 7 5 b_Draft_init
theorem e_Draft_init (s x0 x1 x2 x3 : D) : d_Draft_init s [x0, x1, x2, x3] = finI (b_Draft_init [some (.slf s), some (.val x0), some (.val x1), some (.val x2), some (.val x3), none, none]) := id rfl
def b_Base_init : DS := sSeq (sInitC 0 d_Titled_init (aCons (eVar 1) (aNil))) (sFld 0 "is_shared" (eVar 2))
def d_Base_init : D → List D → R (D × D) := initP 3 3 b_Base_init
theorem e_Base_init (s x0 x1 : D) : d_Base_init s [x0, x1] = finI (b_Base_init [some (.slf s), some (.val x0), some (.val x1)]) := id rfl
def b_law_shared_1 : DS := sIf (tVal (e2 oNotIn (eVar 5) (eLook 3))) (sApp 3 (eVar 5)) (sNext)
def b_law_shared_2 : DS := sSeq (sFor (iOf (e2 oIx (eLook 1) (e2 oIx (eVar 4) (eC (.int 0))))) (gVar 5) [5] b_law_shared_1) (sIf (tAndD (tVal (e2 oEq (e2 oIx (eVar 4) (eC (.int 1))) (eC (.int 1)))) (tVal (e2 oNotIn (e2 oIx (eVar 4) (eC (.int 0))) (eLook 3)))) (sApp 3 (e2 oIx (eVar 4) (eC (.int 0)))) (sNext))
def b_law_shared_3 : DS := sSeq (sOwn 3 (eLst (aNil))) (sSeq (sFor (iOf (e2 oIx (e2 oIx (eVar 0) (eVar 2)) (eC (.int 0)))) (gVar 4) [4, 5] b_law_shared_2) (sFrz [3] (sApp 1 (eVar 3))))
def b_law_shared : DS := sSeq (sOwn 1 (eLst (aNil))) (sSeq (sFor (iRange (e1 oLen (eVar 0))) (gVar 2) [2, 3, 4, 5] b_law_shared_3) (sFrz [1] (sRet (eVar 1))))
def d_law_shared : List D → R D := defD 6 1 b_law_shared
theorem e_law_shared (x0 : D) : d_law_shared [x0] = finD (b_law_shared [some (.val x0), none, none, none, none, none]) := id rfl
def b_law_above_1 : DS := sIf (tVal (e2 oNotIn (e2 oIx (eVar 4) (eC (.int 0))) (eLook 2))) (sApp 2 (e2 oIx (eVar 4) (eC (.int 0)))) (sNext)
def b_law_above_2 : DS := sSeq (sIf (tVal (e2 oEq (eVar 3) (e1 oLen (eLook 2)))) (sBrk) (sNext)) (sFor (iOf (e2 oIx (e2 oIx (eVar 0) (e2 oIx (eLook 2) (eVar 3))) (eC (.int 0)))) (gVar 4) [4] b_law_above_1)
def b_law_above : DS := sSeq (sOwn 2 (eLst (aCons (eVar 1) (aNil)))) (sSeq (sFor (iRange (eC (.int 200))) (gVar 3) [3, 4] b_law_above_2) (sFrz [2] (sRet (eVar 2))))
def d_law_above : List D → R D := defD 5 2 b_law_above
theorem e_law_above (x0 x1 : D) : d_law_above [x0, x1] = finD (b_law_above [some (.val x0), some (.val x1), none, none, none]) := id rfl
def b_law_dense_1 : DS := sSeq (sIf (tAndD (tVal (e2 oEq (eVar 4) (eC (.int 0)))) (tVal (e2 oGe (e2 oIx (eVar 8) (eVar 10)) (eC (.int 2))))) (sApp 9 (eLst (aCons (eVar 10) (aCons (e2 oSub (e2 oIx (eVar 8) (eVar 10)) (eC (.int 2))) (aNil))))) (sNext)) (sSeq (sIf (tAndD (tVal (e2 oEq (eVar 4) (eC (.int 1)))) (tVal (e2 oGe (e2 oIx (eVar 8) (eVar 10)) (eC (.int 1))))) (sApp 9 (eLst (aCons (eVar 10) (aCons (e1 oInt (e2 oEq (e2 oIx (eVar 8) (eVar 10)) (eC (.int 1)))) (aNil))))) (sNext)) (sIf (tVal (e2 oEq (eVar 4) (eC (.int 2)))) (sApp 9 (eLst (aCons (eVar 10) (aCons (eC (.int 0)) (aNil))))) (sNext)))
def b_law_dense_2 : DS := sSeq (sSet 13 (e2 oIx (eVar 8) (e2 oAdd (eVar 6) (eVar 12)))) (sApp 11 (e2 oAdd (e1 oInt (e2 oEq (eVar 13) (e2 oSub (eVar 7) (eC (.int 2))))) (e2 oMul (eC (.int 2)) (e1 oInt (e2 oEq (eVar 13) (e2 oSub (eVar 7) (eC (.int 1))))))))
def b_law_dense_3 : DS := sSeq (sSet 7 (eC (.int 5))) (sSeq (sIf (tAndD (tVal (e2 oGt (eVar 4) (eC (.int 0)))) (tVal (e2 oGt (eVar 6) (eC (.int 1))))) (sSet 7 (eC (.int 20))) (sNext)) (sSeq (sSet 8 (eCall d_law_row (aCons (eCall d_law_cell (aCons (eVar 0) (aCons (e2 oAdd (eVar 1) (eVar 6)) (aNil)))) (aCons (e2 oAdd (eVar 1) (eVar 6)) (aCons (e2 oAdd (e2 oMul (eLst (aCons (e2 oIx (eLst (aCons (eC (.int 4)) (aCons (eC (.int 16)) (aCons (eC (.int 1)) (aNil))))) (eVar 4)) (aNil))) (eVar 6)) (e2 oMul (eLst (aCons (eVar 7) (aNil))) (eVar 3))) (aNil)))))) (sSeq (sOwn 9 (eLst (aNil))) (sSeq (sFor (iRange (eVar 6)) (gVar 10) [10] b_law_dense_1) (sSeq (sOwn 11 (eLst (aNil))) (sSeq (sFor (iRange (eVar 3)) (gVar 12) [12, 13] b_law_dense_2) (sFrz [9, 11] (sApp 5 (eLst (aCons (eVar 9) (aCons (eVar 11) (aNil))))))))))))
def b_law_dense : DS := sSeq (sOwn 5 (eLst (aNil))) (sSeq (sFor (iRange (eVar 2)) (gVar 6) [6, 7, 8, 9, 10, 11, 12, 13] b_law_dense_3) (sFrz [5] (sRet (eVar 5))))
def d_law_dense : List D → R D := defD 14 5 b_law_dense
theorem e_law_dense (x0 x1 x2 x3 x4 : D) : d_law_dense [x0, x1, x2, x3, x4] = finD (b_law_dense [some (.val x0), some (.val x1), some (.val x2), some (.val x3), some (.val x4), none, none, none, none, none, none, none, none, none]) := id rfl
def b_law_draftsD_1 : DS := sSeq (sSet 5 (eComp (iRange (e1 oLen (eVar 2))) [8] (gVar 8) (tVal (e2 oEq (e2 oIx (e2 oIx (e2 oIx (eVar 0) (eVar 4)) (eC (.int 1))) (eVar 8)) (eC (.int 1)))) (e2 oIx (eVar 2) (eVar 8)))) (sSeq (sSet 6 (eComp (iRange (e1 oLen (eVar 2))) [8] (gVar 8) (tVal (e2 oEq (e2 oIx (e2 oIx (e2 oIx (eVar 0) (eVar 4)) (eC (.int 1))) (eVar 8)) (eC (.int 2)))) (e2 oIx (eVar 2) (eVar 8)))) (sSeq (sSet 7 (eComp (iOf (e2 oIx (e2 oIx (eVar 0) (eVar 4)) (eC (.int 0)))) [9] (gVar 9) (tYesD) (eCall (mkD "Base" d_Base_init) (aCons (e2 oIx (eVar 1) (e2 oIx (eVar 9) (eC (.int 0)))) (aCons (e2 oEq (e2 oIx (eVar 9) (eC (.int 1))) (eC (.int 1))) (aNil)))))) (sApp 3 (eMkK 1 3 "Draft" gDr3 d_Draft_init (aCons (e2 oIx (eVar 1) (eVar 4)) (aNil)) (aCons (eVar 5) (aCons (eVar 6) (aCons (eVar 7) (aNil))))))))
def b_law_draftsD : DS := sSeq (sOwn 3 (eLst (aNil))) (sSeq (sFor (iRange (e1 oLen (eVar 0))) (gVar 4) [4, 5, 6, 7] b_law_draftsD_1) (sFrz [3] (sRet (eVar 3))))
def d_law_draftsD : List D → R D := defD 10 3 b_law_draftsD
theorem e_law_draftsD (x0 x1 x2 : D) : d_law_draftsD [x0, x1, x2] = finD (b_law_draftsD [some (.val x0), some (.val x1), some (.val x2), none, none, none, none, none, none, none]) := id rfl
def b_Library_getitem : DS := sSeq (sIf (tVal (e2 oNotIn (eVar 1) (e1 (oFld "places") (eVar 0)))) (sRaise "UnknownClass" ["title"] (aCons (eVar 1) (aNil))) (sNext)) (sRet (e2 oIx (e1 (oFld "kinds") (eVar 0)) (e2 oIx (e1 (oFld "places") (eVar 0)) (eVar 1))))
def d_Library_getitem : List D → R D := defD 2 2 b_Library_getitem
theorem e_Library_getitem (x0 x1 : D) : d_Library_getitem [x0, x1] = finD (b_Library_getitem [some (.val x0), some (.val x1)]) := id rfl
def b_Library_contains : DS := sRet (e2 oIn (eVar 1) (e1 (oFld "places") (eVar 0)))
def d_Library_contains : List D → R D := defD 2 2 b_Library_contains
theorem e_Library_contains (x0 x1 : D) : d_Library_contains [x0, x1] = finD (b_Library_contains [some (.val x0), some (.val x1)]) := id rfl
def b_own_way_counts_1 : DS := sIf (tNotD (tTru (e1 (oFld "is_shared") (eVar 4)))) (sPutAdd 2 (e1 (oFld "title") (eVar 3)) (e2 oIx (eLook 2) (e1 (oFld "title") (eVar 4)))) (sNext)
def b_own_way_counts_2 : DS := sSeq (sPutD 2 (e1 (oFld "title") (eVar 3)) (eC (.int 0))) (sSeq (sIf (tVal (e2 oEq (e1 (oFld "title") (eVar 3)) (eVar 1))) (sPutD 2 (eVar 1) (eC (.int 1))) (sNext)) (sFor (iOf (e1 (oFld "bases") (eVar 3))) (gVar 4) [4] b_own_way_counts_1))
def b_own_way_counts : DS := sSeq (sOwn 2 (eC (.dct [] []))) (sSeq (sFor (iOwn "Library" "kinds" (eVar 0)) (gVar 3) [3, 4] b_own_way_counts_2) (sFrz [2] (sRet (eVar 2))))
def d_own_way_counts : List D → R D := defD 5 2 b_own_way_counts
theorem e_own_way_counts (x0 x1 : D) : d_own_way_counts [x0, x1] = finD (b_own_way_counts [some (.val x0), some (.val x1), none, none, none]) := id rfl
def b_count_copies : DS := sSeq (sSet 3 (eIxO "Library" d_Library_getitem (eVar 0) (eVar 1))) (sSeq (sIf (tVal (eRMn "Library" d_Library_contains (eVar 2) (eVar 0))) (sRaise "UnknownClass" ["title"] (aCons (eVar 2) (aNil))) (sNext)) (sSeq (sSet 4 (eCall d_own_way_counts (aCons (eVar 0) (aCons (eVar 2) (aNil))))) (sRet (e2 oAdd (e2 oIx (eVar 4) (eVar 1)) (e1 oSum (eComp (iOf (e1 (oFld "shared_bases") (eVar 3))) [5] (gVar 5) (tYesD) (e2 oIx (eVar 4) (eVar 5))))))))
def d_count_copies : List D → R D := defD 6 3 b_count_copies
theorem e_count_copies (x0 x1 x2 : D) : d_count_copies [x0, x1, x2] = finD (b_count_copies [some (.val x0), some (.val x1), some (.val x2), none, none, none]) := id rfl
def b_Kind_le : DS := sRet (eOr (e2 oEq (e1 (oFld "title") (eVar 0)) (e1 (oFld "title") (eVar 1))) (e2 oIn (e1 (oFld "title") (eVar 0)) (e1 (oFld "above") (eVar 1))))
def d_Kind_le : List D → R D := defD 2 2 b_Kind_le
theorem e_Kind_le (x0 x1 : D) : d_Kind_le [x0, x1] = finD (b_Kind_le [some (.val x0), some (.val x1)]) := id rfl
def b_law_counts_1 : DS := sIf (tVal (e2 oEq (e2 oIx (eVar 5) (eC (.int 1))) (eC (.int 0)))) (sSet 4 (e2 oAdd (eVar 4) (e2 oIx (eLook 2) (e2 oIx (eVar 5) (eC (.int 0)))))) (sNext)
def b_law_counts_2 : DS := sSeq (sSet 4 (e1 oInt (e2 oEq (eVar 3) (eVar 1)))) (sSeq (sFor (iOf (e2 oIx (e2 oIx (eVar 0) (eVar 3)) (eC (.int 0)))) (gVar 5) [5] b_law_counts_1) (sApp 2 (eVar 4)))
def b_law_counts : DS := sSeq (sOwn 2 (eLst (aNil))) (sSeq (sFor (iRange (e1 oLen (eVar 0))) (gVar 3) [3, 4, 5] b_law_counts_2) (sFrz [2] (sRet (eVar 2))))
def d_law_counts : List D → R D := defD 6 2 b_law_counts
theorem e_law_counts (x0 x1 : D) : d_law_counts [x0, x1] = finD (b_law_counts [some (.val x0), some (.val x1), none, none, none, none]) := id rfl
end Tw

namespace Tw
open PySem
def b_law_commas_1 : DS := sSeq (sIf (tVal (e2 oLe (e1 oLen (eVar 1)) (eC (.int 3)))) (sBrk) (sNext)) (sSeq (sSet 2 (e2 oAdd (eLst (aCons (eSl (eVar 1) (xSome (e1 oNeg (eC (.int 3)))) (xNone)) (aNil))) (eVar 2))) (sSet 1 (eSl (eVar 1) (xNone) (xSome (e1 oNeg (eC (.int 3)))))))
def b_law_commas : DS := sSeq (sSet 1 (e1 oStrI (eVar 0))) (sSeq (sSet 2 (eLst (aNil))) (sSeq (sFor (iRange (eC (.int 30))) (gVar 3) [3] b_law_commas_1) (sRet (eJoin (eC (.str ",")) (e2 oAdd (eLst (aCons (eVar 1) (aNil))) (eVar 2))))))
def d_law_commas : List D → R D := defD 4 1 b_law_commas
theorem e_law_commas (x0 : D) : d_law_commas [x0] = finD (b_law_commas [some (.val x0), none, none, none]) := id rfl
def b_listing_1 : DS := sIf (tVal (eOp "Kind" ["Kind"] d_Kind_le (eVar 4) (eVar 2))) (sSeq (sSet 5 (eCall d_count_copies (aCons (eVar 0) (aCons (eVar 1) (aCons (e1 (oFld "title") (eVar 4)) (aNil)))))) (sApp 3 (eLine (e1 (oFld "title") (eVar 4)) (eVar 5)))) (sNext)
def b_listing : DS := sSeq (sSet 2 (eIxO "Library" d_Library_getitem (eVar 0) (eVar 1))) (sSeq (sOwn 3 (eLst (aNil))) (sSeq (sFor (iOwn "Library" "kinds" (eVar 0)) (gVar 4) [4, 5] b_listing_1) (sFrz [3] (sRet (eVar 3)))))
def d_listing : List D → R D := defD 6 2 b_listing
theorem e_listing (x0 x1 : D) : d_listing [x0, x1] = finD (b_listing [some (.val x0), some (.val x1), none, none, none, none]) := id rfl
def b_law_1 : DS := sIf (tVal (e2 oIn (eVar 11) (eVar 9))) (sSeq (sSet 12 (eCall d_law_counts (aCons (eVar 4) (aCons (eVar 11) (aNil))))) (sSeq (sSet 13 (e2 oAdd (e2 oIx (eVar 12) (eVar 8)) (e1 oSum (eComp (iOf (e2 oIx (eVar 7) (eVar 8))) [16] (gVar 16) (tYesD) (e2 oIx (eVar 12) (eVar 16)))))) (sApp 10 (e2 oAdd (eT1 fLjust (e2 oIx (eVar 5) (eVar 11)) (eC (.int 8))) (eT1 fRjust (eCall d_law_commas (aCons (eVar 13) (aNil))) (eC (.int 26))))))) (sNext)
def b_law_2 : DS := sSeq (sOwnX 15 [false, false, false, false, false, true, true, false, true] (eCall d_listing (aCons (eVar 6) (aCons (e2 oIx (eVar 5) (eVar 8)) (aNil))))) (sSeq (sIf (tOrD (tNotD (tTru (e1 (oIsi "list") (eLook 15)))) (tVal (e2 oNe (eLook 15) (eLook 10)))) (sRet (eC (.bl false))) (sNext)) (sClearE 15))
def b_law : DS := sSeq (sSet 1 (eCall d_law_row (aCons (eCall d_law_cell (aCons (eVar 0) (aCons (eC (.int 0)) (aNil)))) (aCons (eC (.int 1)) (aCons (eLst (aCons (eC (.int 4)) (aCons (eC (.int 61)) (aCons (eC (.int 1664)) (aCons (eC (.int 8)) (aNil)))))) (aNil)))))) (sSeq (sSet 2 (e2 oIx (eLst (aCons (eC (.int 0)) (aCons (eC (.int 1)) (aCons (eC (.int 2)) (aCons (eC (.int 0)) (aNil)))))) (e2 oIx (eVar 1) (eC (.int 0))))) (sSeq (sSet 3 (e2 oAdd (eC (.int 2)) (e2 oMod (e2 oIx (eVar 1) (eC (.int 1))) (e2 oIx (eLst (aCons (eC (.int 15)) (aCons (eC (.int 21)) (aCons (eC (.int 29)) (aNil))))) (eVar 2))))) (sSeq (sIf (tAndD (tVal (e2 oEq (eVar 2) (eC (.int 2)))) (tVal (e2 oEq (e2 oIx (eVar 1) (eC (.int 3))) (eC (.int 5))))) (sSet 3 (eC (.int 62))) (sNext)) (sSeq (sSet 4 (eCall d_law_dense (aCons (eVar 0) (aCons (eC (.int 1)) (aCons (eVar 3) (aCons (eC (.int 0)) (aCons (eVar 2) (aNil)))))))) (sSeq (sSet 5 (eComp (iRange (eVar 3)) [11] (gVar 11) (tYesD) (eCall d_law_word (aCons (e2 oIx (eVar 1) (eC (.int 2))) (aCons (eVar 11) (aNil)))))) (sSeq (sSet 6 (eCall (mkD "Library" d_Library_init) (aCons (eCall d_law_draftsD (aCons (eVar 4) (aCons (eVar 5) (aCons (eLst (aNil)) (aNil))))) (aNil)))) (sSeq (sSet 7 (eCall d_law_shared (aCons (eVar 4) (aNil)))) (sSeq (sSet 8 (e2 oSub (eVar 3) (eC (.int 1)))) (sSeq (sIf (tVal (e2 oGt (e2 oIx (eVar 1) (eC (.int 3))) (eC (.int 5)))) (sSet 8 (e2 oMod (e2 oAdd (e2 oMul (e2 oIx (eVar 1) (eC (.int 1))) (eC (.int 7))) (e2 oIx (eVar 1) (eC (.int 3)))) (eVar 3))) (sNext)) (sSeq (sSet 9 (eCall d_law_above (aCons (eVar 4) (aCons (eVar 8) (aNil))))) (sSeq (sOwn 10 (eLst (aNil))) (sSeq (sFor (iRange (eVar 3)) (gVar 11) [11, 12, 13] b_law_1) (sSeq (sFor (iRange (eC (.int 2))) (gVar 14) [14, 15] b_law_2) (sRet (eC (.bl true))))))))))))))))
def d_law : List D → R D := defD 17 1 b_law
theorem e_law (x0 : D) : d_law [x0] = finD (b_law [some (.val x0), none, none, none, none, none, none, none, none, none, none, none, none, none, none, none, none]) := id rfl
end Tw

set_option maxHeartbeats 2000000
namespace Tw
open PySem PySem.Spec L2
open PyProof.Rows hiding St
structure Fx (K : PySem.W.Frag) (mg : Str → Option Value) : Prop where
  n_abs : mg "abs" = none
  n_int : mg "int" = none
  n_isinstance : mg "isinstance" = none
  n_iter : mg "iter" = none
  n_len : mg "len" = none
  n_list : mg "list" = none
  n_range : mg "range" = none
  n_str : mg "str" = none
  n_sum : mg "sum" = none
  n_super : mg "super" = none
  n_tuple : mg "tuple" = none
  c_DIGITS : ∃ t, mg "DIGITS" = some (.str "0123456789" t)
  c_LETTERS : ∃ t, mg "LETTERS" = some (.str "ABCDEFGHIJKLMNOPQRSTUVWXYZabcdefghijklmnopqrstuvwxyz" t)
  c_LONGEST : ∃ t, mg "LONGEST" = some (.int 8 t)
  g_Base : mg "Base" = some (.ref (gAd "Base" K))
  g_Declaring : mg "Declaring" = some (.ref (gAd "Declaring" K))
  g_Draft : mg "Draft" = some (.ref (gAd "Draft" K))
  g_DuplicateBase : mg "DuplicateBase" = some (.ref (gAd "DuplicateBase" K))
  g_DuplicateClass : mg "DuplicateClass" = some (.ref (gAd "DuplicateClass" K))
  g_DuplicateName : mg "DuplicateName" = some (.ref (gAd "DuplicateName" K))
  g_InvalidWord : mg "InvalidWord" = some (.ref (gAd "InvalidWord" K))
  g_Kind : mg "Kind" = some (.ref (gAd "Kind" K))
  g_Library : mg "Library" = some (.ref (gAd "Library" K))
  g_Titled : mg "Titled" = some (.ref (gAd "Titled" K))
  g_UnknownClass : mg "UnknownClass" = some (.ref (gAd "UnknownClass" K))
  g__law_above : mg "_law_above" = some (.ref (gAd "_law_above" K))
  g__law_cell : mg "_law_cell" = some (.ref (gAd "_law_cell" K))
  g__law_commas : mg "_law_commas" = some (.ref (gAd "_law_commas" K))
  g__law_counts : mg "_law_counts" = some (.ref (gAd "_law_counts" K))
  g__law_dense : mg "_law_dense" = some (.ref (gAd "_law_dense" K))
  g__law_drafts : mg "_law_drafts" = some (.ref (gAd "_law_drafts" K))
  g__law_row : mg "_law_row" = some (.ref (gAd "_law_row" K))
  g__law_shared : mg "_law_shared" = some (.ref (gAd "_law_shared" K))
  g__law_word : mg "_law_word" = some (.ref (gAd "_law_word" K))
  g_count_copies : mg "count_copies" = some (.ref (gAd "count_copies" K))
  g_law : mg "law" = some (.ref (gAd "law" K))
  g_listing : mg "listing" = some (.ref (gAd "listing" K))
  g_own_way_counts : mg "own_way_counts" = some (.ref (gAd "own_way_counts" K))
  cl_Base : Cls K (cmOf K "Base")
  na_Base_title : NoAttr K (cmOf K "Base") "title"
  na_Base_is_shared : NoAttr K (cmOf K "Base") "is_shared"
  cl_Draft : Cls K (cmOf K "Draft")
  na_Draft_title : NoAttr K (cmOf K "Draft") "title"
  na_Draft_names : NoAttr K (cmOf K "Draft") "names"
  na_Draft_statics : NoAttr K (cmOf K "Draft") "statics"
  na_Draft_bases : NoAttr K (cmOf K "Draft") "bases"
  cl_Kind : Cls K (cmOf K "Kind")
  na_Kind_title : NoAttr K (cmOf K "Kind") "title"
  na_Kind_names : NoAttr K (cmOf K "Kind") "names"
  na_Kind_statics : NoAttr K (cmOf K "Kind") "statics"
  na_Kind_bases : NoAttr K (cmOf K "Kind") "bases"
  na_Kind_above : NoAttr K (cmOf K "Kind") "above"
  na_Kind_shared_bases : NoAttr K (cmOf K "Kind") "shared_bases"
  cl_Library : Cls K (cmOf K "Library")
  na_Library_kinds : NoAttr K (cmOf K "Library") "kinds"
  na_Library_places : NoAttr K (cmOf K "Library") "places"
  na_Library_names : NoAttr K (cmOf K "Library") "names"
  mk_Base : Mk K (cmOf K "Base") (mAd "Base" "__init__" K)
  mk_Draft : Mk K (cmOf K "Draft") (mAd "Draft" "__init__" K)
  mk_Kind : Mk K (cmOf K "Kind") (mAd "Kind" "__init__" K)
  mk_Library : Mk K (cmOf K "Library") (mAd "Library" "__init__" K)
  sm_Titled_is_word : CFn K (cmOf K "Titled") "is_word" (sAd "Titled" "is_word" K)
  pm_Declaring_init : CFn K (cmOf K "Declaring") "__init__" (mAd "Declaring" "__init__" K)
  pm_Titled_init : CFn K (cmOf K "Titled") "__init__" (mAd "Titled" "__init__" K)
  me_Kind_le : Meth K (cmOf K "Kind") "__le__" (mAd "Kind" "__le__" K)
  me_Library_contains : Meth K (cmOf K "Library") "__contains__" (mAd "Library" "__contains__" K)
  me_Library_getitem : Meth K (cmOf K "Library") "__getitem__" (mAd "Library" "__getitem__" K)
  me_Library_iter : Meth K (cmOf K "Library") "__iter__" (mAd "Library" "__iter__" K)
  me_Library_admit : Meth K (cmOf K "Library") "admit" (mAd "Library" "admit" K)
  nt_Kind : PySem.W.notFirst K (cmOf K "Kind") (.ref (cmOf K "Kind")) = true
  d_law_row : ∃ fd, FunD K "_law_row" "_law_row" (defArgs (top 30)) (defBody (top 30)) (defScope (top 30)) [] [] (gAd "_law_row" K) fd
  d_law_cell : ∃ fd, FunD K "_law_cell" "_law_cell" (defArgs (top 29)) (defBody (top 29)) (defScope (top 29)) [] [] (gAd "_law_cell" K) fd
  d_law_dense : ∃ fd, FunD K "_law_dense" "_law_dense" (defArgs (top 32)) (defBody (top 32)) (defScope (top 32)) [] [] (gAd "_law_dense" K) fd
  d_law_word : ∃ fd, FunD K "_law_word" "_law_word" (defArgs (top 31)) (defBody (top 31)) (defScope (top 31)) [] [] (gAd "_law_word" K) fd
  d_Titled_is_word : ∃ fd, FunD K "is_word" "Titled.is_word" (defArgs (L2.inClass (top 17) 1)) (defBody (L2.inClass (top 17) 1)) (defScope (L2.inClass (top 17) 1)) [] [] (sAd "Titled" "is_word" K) fd
  d_Titled_init : ∃ fd, FunD K "__init__" "Titled.__init__" (defArgs (L2.inClass (top 17) 0)) (defBody (L2.inClass (top 17) 0)) (defScope (L2.inClass (top 17) 0)) [] [] (mAd "Titled" "__init__" K) fd
  d_Declaring_init : ∃ fd, FunD K "__init__" "Declaring.__init__" (defArgs (L2.inClass (top 19) 0)) (defBody (L2.inClass (top 19) 0)) (defScope (L2.inClass (top 19) 0)) [] [] (mAd "Declaring" "__init__" K) fd
  d_Kind_init : ∃ fd, FunD K "__init__" "Kind.__init__" (defArgs (L2.inClass (top 22) 0)) (defBody (L2.inClass (top 22) 0)) (defScope (L2.inClass (top 22) 0)) [] [] (mAd "Kind" "__init__" K) fd
  d_Library_admit : ∃ fd, FunD K "admit" "Library.admit" (defArgs (L2.inClass (top 27) 1)) (defBody (L2.inClass (top 27) 1)) (defScope (L2.inClass (top 27) 1)) [] [] (mAd "Library" "admit" K) fd
  d_Library_init : ∃ fd, FunD K "__init__" "Library.__init__" (defArgs (L2.inClass (top 27) 0)) (defBody (L2.inClass (top 27) 0)) (defScope (L2.inClass (top 27) 0)) [.ref (dfAd "Library" "__init__" 0 K)] [] (mAd "Library" "__init__" K) fd
  d_Base_init : ∃ fd, FunD K "__init__" "Base.__init__" (defArgs (L2.inClass (top 18) 0)) (defBody (L2.inClass (top 18) 0)) (defScope (L2.inClass (top 18) 0)) [.bl false] [] (mAd "Base" "__init__" K) fd
  d_Draft_init : ∃ fd, FunD K "__init__" "Draft.__init__" (defArgs (L2.inClass (top 20) 0)) (defBody (L2.inClass (top 20) 0)) (defScope (L2.inClass (top 20) 0)) [] [("names", .ref (kwAd "Draft" "__init__" "names" K)), ("statics", .ref (kwAd "Draft" "__init__" "statics" K)), ("bases", .ref (kwAd "Draft" "__init__" "bases" K))] (mAd "Draft" "__init__" K) fd
  d_law_draftsD : ∃ fd, FunD K "_law_drafts" "_law_drafts" (defArgs (top 33)) (defBody (top 33)) (defScope (top 33)) [] [] (gAd "_law_drafts" K) fd
  d_law_shared : ∃ fd, FunD K "_law_shared" "_law_shared" (defArgs (top 34)) (defBody (top 34)) (defScope (top 34)) [] [] (gAd "_law_shared" K) fd
  d_law_above : ∃ fd, FunD K "_law_above" "_law_above" (defArgs (top 35)) (defBody (top 35)) (defScope (top 35)) [] [] (gAd "_law_above" K) fd
  d_law_counts : ∃ fd, FunD K "_law_counts" "_law_counts" (defArgs (top 36)) (defBody (top 36)) (defScope (top 36)) [] [] (gAd "_law_counts" K) fd
  d_law_commas : ∃ fd, FunD K "_law_commas" "_law_commas" (defArgs (top 37)) (defBody (top 37)) (defScope (top 37)) [] [] (gAd "_law_commas" K) fd
  d_Library_getitem : ∃ fd, FunD K "__getitem__" "Library.__getitem__" (defArgs (L2.inClass (top 27) 4)) (defBody (L2.inClass (top 27) 4)) (defScope (L2.inClass (top 27) 4)) [] [] (mAd "Library" "__getitem__" K) fd
  d_Library_iter : ∃ fd, FunD K "__iter__" "Library.__iter__" (defArgs (L2.inClass (top 27) 2)) (defBody (L2.inClass (top 27) 2)) (defScope (L2.inClass (top 27) 2)) [] [] (mAd "Library" "__iter__" K) fd
  d_Kind_le : ∃ fd, FunD K "__le__" "Kind.__le__" (defArgs (L2.inClass (top 22) 2)) (defBody (L2.inClass (top 22) 2)) (defScope (L2.inClass (top 22) 2)) [] [] (mAd "Kind" "__le__" K) fd
  d_Library_contains : ∃ fd, FunD K "__contains__" "Library.__contains__" (defArgs (L2.inClass (top 27) 3)) (defBody (L2.inClass (top 27) 3)) (defScope (L2.inClass (top 27) 3)) [] [] (mAd "Library" "__contains__" K) fd
  d_own_way_counts : ∃ fd, FunD K "own_way_counts" "own_way_counts" (defArgs (top 10)) (defBody (top 10)) (defScope (top 10)) [] [] (gAd "own_way_counts" K) fd
  d_count_copies : ∃ fd, FunD K "count_copies" "count_copies" (defArgs (top 11)) (defBody (top 11)) (defScope (top 11)) [] [] (gAd "count_copies" K) fd
  d_listing : ∃ fd, FunD K "listing" "listing" (defArgs (top 12)) (defBody (top 12)) (defScope (top 12)) [] [] (gAd "listing" K) fd
  d_law : ∃ fd, FunD K "law" "law" (defArgs (top 38)) (defBody (top 38)) (defScope (top 38)) [] [] (gAd "law" K) fd
  xc_DuplicateBase : XcA PG K ⟨"DuplicateBase", "__init__", "DuplicateBase.__init__", defArgs (L2.inClass (top 5) 0), defBody (L2.inClass (top 5) 0), defScope (L2.inClass (top 5) 0)⟩
  ox_DuplicateBase : OexC K (He.ga K "DuplicateBase")
  xn_DuplicateBase_title : PySem.W.findIn K (.ref (He.ga K "DuplicateBase")) "title" = some none
  xc_DuplicateClass : XcA PG K ⟨"DuplicateClass", "__init__", "DuplicateClass.__init__", defArgs (L2.inClass (top 6) 0), defBody (L2.inClass (top 6) 0), defScope (L2.inClass (top 6) 0)⟩
  ox_DuplicateClass : OexC K (He.ga K "DuplicateClass")
  xn_DuplicateClass_title : PySem.W.findIn K (.ref (He.ga K "DuplicateClass")) "title" = some none
  xc_DuplicateName : XcA PG K ⟨"DuplicateName", "__init__", "DuplicateName.__init__", defArgs (L2.inClass (top 4) 0), defBody (L2.inClass (top 4) 0), defScope (L2.inClass (top 4) 0)⟩
  ox_DuplicateName : OexC K (He.ga K "DuplicateName")
  xn_DuplicateName_name : PySem.W.findIn K (.ref (He.ga K "DuplicateName")) "name" = some none
  xc_InvalidWord : XcA PG K ⟨"InvalidWord", "__init__", "InvalidWord.__init__", defArgs (L2.inClass (top 3) 0), defBody (L2.inClass (top 3) 0), defScope (L2.inClass (top 3) 0)⟩
  ox_InvalidWord : OexC K (He.ga K "InvalidWord")
  xn_InvalidWord_word : PySem.W.findIn K (.ref (He.ga K "InvalidWord")) "word" = some none
  xc_UnknownClass : XcA PG K ⟨"UnknownClass", "__init__", "UnknownClass.__init__", defArgs (L2.inClass (top 7) 0), defBody (L2.inClass (top 7) 0), defScope (L2.inClass (top 7) 0)⟩
  ox_UnknownClass : OexC K (He.ga K "UnknownClass")
  xn_UnknownClass_title : PySem.W.findIn K (.ref (He.ga K "UnknownClass")) "title" = some none
def gg {K : PySem.W.Frag} {mg : Str → Option Value} (F : Fx K mg) : Gc where
  K := K
  cm := cmOf K
  has := fun c => c = "Base" ∨ c = "Draft" ∨ c = "Kind" ∨ c = "Library"
  cls := by
    intro c h
    rcases h with rfl | rfl | rfl | rfl
    · exact F.cl_Base
    · exact F.cl_Draft
    · exact F.cl_Kind
    · exact F.cl_Library
  noat := by
    intro c f h k
    rcases h with rfl | rfl | rfl | rfl
    · have k : f = "title" ∨ f = "is_shared" := by simpa [fldOf] using k
      rcases k with rfl | rfl
      · exact F.na_Base_title
      · exact F.na_Base_is_shared
    · have k : f = "title" ∨ f = "names" ∨ f = "statics" ∨ f = "bases" := by simpa [fldOf] using k
      rcases k with rfl | rfl | rfl | rfl
      · exact F.na_Draft_title
      · exact F.na_Draft_names
      · exact F.na_Draft_statics
      · exact F.na_Draft_bases
    · have k : f = "title" ∨ f = "names" ∨ f = "statics" ∨ f = "bases" ∨ f = "above" ∨ f = "shared_bases" := by simpa [fldOf] using k
      rcases k with rfl | rfl | rfl | rfl | rfl | rfl
      · exact F.na_Kind_title
      · exact F.na_Kind_names
      · exact F.na_Kind_statics
      · exact F.na_Kind_bases
      · exact F.na_Kind_above
      · exact F.na_Kind_shared_bases
    · have k : f = "kinds" ∨ f = "places" ∨ f = "names" := by simpa [fldOf] using k
      rcases k with rfl | rfl | rfl
      · exact F.na_Library_kinds
      · exact F.na_Library_places
      · exact F.na_Library_names
theorem x_DuplicateBase {w : World} {K : PySem.W.Frag} {mg : Str → Option Value} {base : Heap} (F : Fx K mg) : XMk PG w K mg base (gg F) "DuplicateBase" "DuplicateBase" ["title"] 1 :=
  xmk1 (k := 0) F.xc_DuplicateBase F.ox_DuplicateBase rfl F.g_DuplicateBase (by exact rfl) ⟨rfl, rfl, rfl, by decide +kernel, rfl, by decide +kernel, by decide +kernel, by decide +kernel, by decide +kernel, by decide +kernel⟩ ⟨_, rfl, rfl⟩ (by decide +kernel) F.n_super F.xn_DuplicateBase_title (fun _ _ _ _ _ _ _ us hl => match us, hl with | [_, _], _ => rfl) (by intros; exact rfl) (by decide) (by decide)
theorem x_DuplicateClass {w : World} {K : PySem.W.Frag} {mg : Str → Option Value} {base : Heap} (F : Fx K mg) : XMk PG w K mg base (gg F) "DuplicateClass" "DuplicateClass" ["title"] 1 :=
  xmk1 (k := 0) F.xc_DuplicateClass F.ox_DuplicateClass rfl F.g_DuplicateClass (by exact rfl) ⟨rfl, rfl, rfl, by decide +kernel, rfl, by decide +kernel, by decide +kernel, by decide +kernel, by decide +kernel, by decide +kernel⟩ ⟨_, rfl, rfl⟩ (by decide +kernel) F.n_super F.xn_DuplicateClass_title (fun _ _ _ _ _ _ _ us hl => match us, hl with | [_, _], _ => rfl) (by intros; exact rfl) (by decide) (by decide)
theorem x_DuplicateName {w : World} {K : PySem.W.Frag} {mg : Str → Option Value} {base : Heap} (F : Fx K mg) : XMk PG w K mg base (gg F) "DuplicateName" "DuplicateName" ["name"] 1 :=
  xmk1 (k := 0) F.xc_DuplicateName F.ox_DuplicateName rfl F.g_DuplicateName (by exact rfl) ⟨rfl, rfl, rfl, by decide +kernel, rfl, by decide +kernel, by decide +kernel, by decide +kernel, by decide +kernel, by decide +kernel⟩ ⟨_, rfl, rfl⟩ (by decide +kernel) F.n_super F.xn_DuplicateName_name (fun _ _ _ _ _ _ _ us hl => match us, hl with | [_, _], _ => rfl) (by intros; exact rfl) (by decide) (by decide)
theorem x_InvalidWord {w : World} {K : PySem.W.Frag} {mg : Str → Option Value} {base : Heap} (F : Fx K mg) : XMk PG w K mg base (gg F) "InvalidWord" "InvalidWord" ["word"] 1 :=
  xmk1 (k := 0) F.xc_InvalidWord F.ox_InvalidWord rfl F.g_InvalidWord (by exact rfl) ⟨rfl, rfl, rfl, by decide +kernel, rfl, by decide +kernel, by decide +kernel, by decide +kernel, by decide +kernel, by decide +kernel⟩ ⟨_, rfl, rfl⟩ (by decide +kernel) F.n_super F.xn_InvalidWord_word (fun _ _ _ _ _ _ _ us hl => match us, hl with | [_, _], _ => rfl) (by intros; exact rfl) (by decide) (by decide)
theorem x_UnknownClass {w : World} {K : PySem.W.Frag} {mg : Str → Option Value} {base : Heap} (F : Fx K mg) : XMk PG w K mg base (gg F) "UnknownClass" "UnknownClass" ["title"] 1 :=
  xmk1 (k := 0) F.xc_UnknownClass F.ox_UnknownClass rfl F.g_UnknownClass (by exact rfl) ⟨rfl, rfl, rfl, by decide +kernel, rfl, by decide +kernel, by decide +kernel, by decide +kernel, by decide +kernel, by decide +kernel⟩ ⟨_, rfl, rfl⟩ (by decide +kernel) F.n_super F.xn_UnknownClass_title (fun _ _ _ _ _ _ _ us hl => match us, hl with | [_, _], _ => rfl) (by intros; exact rfl) (by decide) (by decide)
theorem sc_law_row : FnScope ["_law_cell_here", "_law_seed", "_law_limits", "_law_row_here", "_law_rest", "_law_limit", "_law_k", "_law_mixed"] ["_law_cell_here", "_law_seed", "_law_limits"] (defScope (top 30)) := ⟨rfl, rfl, rfl, by decide +kernel, rfl, by decide +kernel, by decide +kernel⟩
theorem f_law_row {w : World} {K : PySem.W.Frag} {mg : Str → Option Value} {base : Heap} (F : Fx K mg) : PySem.W.keepIn K (.ref (gAd "_law_row" K)) = true ∧ FnOk PG w K mg base (L2.CX PG w) 1 (gAd "_law_row" K) F.d_law_row.choose ["_law_cell_here", "_law_seed", "_law_limits"] (dsp (gg F) d_law_row) ∧ Binds K F.d_law_row.choose ["_law_cell_here", "_law_seed", "_law_limits"] [] := by
  have FD := F.d_law_row.choose_spec
  refine ⟨FD.kp, fn_dsp FD rfl sc_law_row (Nat.le_of_ble_eq_true rfl) (k := 0) (b := b_law_row) (N := ["_law_cell_here", "_law_seed", "_law_limits", "_law_row_here", "_law_rest", "_law_limit", "_law_k", "_law_mixed"]) (fun cdv A outer s H E Ze => ?_), FD.bindsN fun _ _ _ _ _ _ us hl => match us, hl with | [_, _, _], _ => rfl⟩
  exact dss_cons (ds_own (i := 3) (by exact rfl) (by exact Nat.le_of_ble_eq_true rfl) (by exact Or.inl rfl) (pf_lst (da_nil))) (dss_cons (ds_set (i := 4) (by exact rfl) (by exact Nat.le_of_ble_eq_true rfl) (by exact Or.inl rfl) (pd_abs (by exact rfl) F.n_abs ((pd_int' (by exact rfl) F.n_int ((pd_var 0).w)).w))) (dss_cons (ds_if (pt_ge ((pd_var 4).w) ((pd_pow ((pd_int).w) ((pd_int).w)).w)) (dss_cons (ds_for (di_of (pd_var 2)) (dg_name (i := 5) (by exact rfl) (by exact Nat.le_of_ble_eq_true rfl) (by exact Or.inl rfl)) (dss_cons (ds_append (i := 3) (by exact rfl) (pd_mod ((pd_int' (by exact rfl) F.n_int ((pd_var 4).w)).w) ((pd_var 5).w))) (dss_one (ds_set (i := 4) (by exact rfl) (by exact Nat.le_of_ble_eq_true rfl) (by exact Or.inl rfl) (pd_fdiv ((pd_int' (by exact rfl) F.n_int ((pd_var 4).w)).w) ((pd_var 5).w)))))) (dss_one (ds_frz [3] (ds_ret (pd_var 3))))) (dss_nil)) (dss_cons (ds_for (di_range (by exact rfl) F.n_range (pd_len (by exact rfl) F.n_len ((pd_var 2).w))) (dg_name (i := 6) (by exact rfl) (by exact Nat.le_of_ble_eq_true rfl) (by exact Or.inl rfl)) (dss_cons (ds_set (i := 7) (by exact rfl) (by exact Nat.le_of_ble_eq_true rfl) (by exact Or.inl rfl) (pd_mod ((pd_int' (by exact rfl) F.n_int ((pd_add ((pd_add ((pd_add ((pd_mul ((pd_var 4).w) ((pd_int).w)).w) ((pd_mul ((pd_var 1).w) ((pd_int).w)).w)).w) ((pd_mul ((pd_var 6).w) ((pd_int).w)).w)).w) ((pd_int).w)).w)).w) ((pd_int).w))) (dss_cons (ds_set (i := 7) (by exact rfl) (by exact Nat.le_of_ble_eq_true rfl) (by exact Or.inl rfl) (pd_mod ((pd_int' (by exact rfl) F.n_int ((pd_add ((pd_add ((pd_mul ((pd_var 7).w) ((pd_add ((pd_fdiv ((pd_var 7).w) ((pd_int).w)).w) ((pd_int).w)).w)).w) ((pd_var 4).w)).w) ((pd_var 6).w)).w)).w) ((pd_int).w))) (dss_one (ds_append (i := 3) (by exact rfl) (pd_mod ((pd_int' (by exact rfl) F.n_int ((pd_fdiv ((pd_var 7).w) ((pd_int).w)).w)).w) ((pd_ix ((pd_var 2).w) ((pd_var 6).w)).w))))))) (dss_one (ds_frz [3] (ds_ret (pd_var 3)))))))
theorem k_law_row {w : World} {K : PySem.W.Frag} {mg : Str → Option Value} {base : Heap} (F : Fx K mg) : Fk PG w K mg base (gg F) "_law_row" d_law_row 1 := ⟨_, _, _, (f_law_row (w := w) (base := base) F).2.1, F.g__law_row, (f_law_row (w := w) (base := base) F).1, (f_law_row (w := w) (base := base) F).2.2⟩
theorem sc_law_cell : FnScope ["_law_script", "_law_k"] ["_law_script", "_law_k"] (defScope (top 29)) := ⟨rfl, rfl, rfl, by decide +kernel, rfl, by decide +kernel, by decide +kernel⟩
theorem f_law_cell {w : World} {K : PySem.W.Frag} {mg : Str → Option Value} {base : Heap} (F : Fx K mg) : PySem.W.keepIn K (.ref (gAd "_law_cell" K)) = true ∧ FnOk PG w K mg base (L2.CX PG w) 1 (gAd "_law_cell" K) F.d_law_cell.choose ["_law_script", "_law_k"] (dsp (gg F) d_law_cell) ∧ Binds K F.d_law_cell.choose ["_law_script", "_law_k"] [] := by
  have FD := F.d_law_cell.choose_spec
  refine ⟨FD.kp, fn_dsp FD rfl sc_law_cell (Nat.le_of_ble_eq_true rfl) (k := 0) (b := b_law_cell) (N := ["_law_script", "_law_k"]) (fun cdv A outer s H E Ze => ?_), FD.bindsN fun _ _ _ _ _ _ us hl => match us, hl with | [_, _], _ => rfl⟩
  exact dss_cons (ds_if (pt_lt ((pd_var 1).w) ((pd_len (by exact rfl) F.n_len ((pd_var 0).w)).w)) (dss_one (ds_ret (pd_int' (by exact rfl) F.n_int ((pd_ix ((pd_var 0).w) ((pd_var 1).w)).w)))) (dss_nil)) (dss_one (ds_ret (pd_mod ((pd_int' (by exact rfl) F.n_int ((pd_add ((pd_add ((pd_mul ((pd_sum (by exact rfl) F.n_sum ((pd_var 0).w)).w) ((pd_int).w)).w) ((pd_mul ((pd_var 1).w) ((pd_int).w)).w)).w) ((pd_len (by exact rfl) F.n_len ((pd_var 0).w)).w)).w)).w) ((pd_int).w))))
theorem k_law_cell {w : World} {K : PySem.W.Frag} {mg : Str → Option Value} {base : Heap} (F : Fx K mg) : Fk PG w K mg base (gg F) "_law_cell" d_law_cell 1 := ⟨_, _, _, (f_law_cell (w := w) (base := base) F).2.1, F.g__law_cell, (f_law_cell (w := w) (base := base) F).1, (f_law_cell (w := w) (base := base) F).2.2⟩
theorem sc_law_dense : FnScope ["_law_script", "_law_at", "_law_size", "_law_many", "_law_style", "_law_plan", "_law_j", "_law_spread", "_law_draws", "_law_links", "_law_k", "_law_marks", "_law_m", "_law_drawn"] ["_law_script", "_law_at", "_law_size", "_law_many", "_law_style"] (defScope (top 32)) := ⟨rfl, rfl, rfl, by decide +kernel, rfl, by decide +kernel, by decide +kernel⟩
theorem f_law_dense {w : World} {K : PySem.W.Frag} {mg : Str → Option Value} {base : Heap} (F : Fx K mg) : PySem.W.keepIn K (.ref (gAd "_law_dense" K)) = true ∧ FnOk PG w K mg base (L2.CX PG w) 2 (gAd "_law_dense" K) F.d_law_dense.choose ["_law_script", "_law_at", "_law_size", "_law_many", "_law_style"] (dsp (gg F) d_law_dense) ∧ Binds K F.d_law_dense.choose ["_law_script", "_law_at", "_law_size", "_law_many", "_law_style"] [] := by
  have FD := F.d_law_dense.choose_spec
  refine ⟨FD.kp, fn_dsp FD rfl sc_law_dense (Nat.le_of_ble_eq_true rfl) (k := 1) (b := b_law_dense) (N := ["_law_script", "_law_at", "_law_size", "_law_many", "_law_style", "_law_plan", "_law_j", "_law_spread", "_law_draws", "_law_links", "_law_k", "_law_marks", "_law_m", "_law_drawn"]) (fun cdv A outer s H E Ze => ?_), FD.bindsN fun _ _ _ _ _ _ us hl => match us, hl with | [_, _, _, _, _], _ => rfl⟩
  exact dss_cons (ds_own (i := 5) (by exact rfl) (by exact Nat.le_of_ble_eq_true rfl) (by exact Or.inl rfl) (pf_lst (da_nil))) (dss_cons (ds_for (di_range (by exact rfl) F.n_range (pd_var 2)) (dg_name (i := 6) (by exact rfl) (by exact Nat.le_of_ble_eq_true rfl) (by exact Or.inl rfl)) (dss_cons (ds_set (i := 7) (by exact rfl) (by exact Nat.le_of_ble_eq_true rfl) (by exact Or.inl rfl) (pd_int)) (dss_cons (ds_if (pt_bo (pw_and' (pt_gt ((pd_var 4).w) ((pd_int).w)) (pw_and1' (pt_gt ((pd_var 6).w) ((pd_int).w))))) (dss_one (ds_set (i := 7) (by exact rfl) (by exact Nat.le_of_ble_eq_true rfl) (by exact Or.inl rfl) (pd_int))) (dss_nil)) (dss_cons (ds_set (i := 8) (by exact rfl) (by exact Nat.le_of_ble_eq_true rfl) (by exact Or.inl rfl) (pd_call (k_law_row (w := w) (base := base) F) (by exact Nat.le_of_ble_eq_true rfl) (by exact rfl) (da_cons (pd_call (k_law_cell (w := w) (base := base) F) (by exact Nat.le_of_ble_eq_true rfl) (by exact rfl) (da_cons (pd_var 0) (da_cons (pd_add ((pd_var 1).w) ((pd_var 6).w)) (da_nil)))) (da_cons (pd_add ((pd_var 1).w) ((pd_var 6).w)) (da_cons (pd_add ((pd_mul ((pd_lst (da_cons (pd_ix ((pd_lst (da_cons (pd_int) (da_cons (pd_int) (da_cons (pd_int) (da_nil))))).w) ((pd_var 4).w)) (da_nil))).w) ((pd_var 6).w)).w) ((pd_mul ((pd_lst (da_cons (pd_var 7) (da_nil))).w) ((pd_var 3).w)).w)) (da_nil)))))) (dss_cons (ds_own (i := 9) (by exact rfl) (by exact Nat.le_of_ble_eq_true rfl) (by exact Or.inl rfl) (pf_lst (da_nil))) (dss_cons (ds_for (di_range (by exact rfl) F.n_range (pd_var 6)) (dg_name (i := 10) (by exact rfl) (by exact Nat.le_of_ble_eq_true rfl) (by exact Or.inl rfl)) (dss_cons (ds_if (pt_bo (pw_and' (pt_eq ((pd_var 4).w) ((pd_int).w)) (pw_and1' (pt_ge ((pd_ix ((pd_var 8).w) ((pd_var 10).w)).w) ((pd_int).w))))) (dss_one (ds_append (i := 9) (by exact rfl) (pd_lst (da_cons (pd_var 10) (da_cons (pd_sub ((pd_ix ((pd_var 8).w) ((pd_var 10).w)).w) ((pd_int).w)) (da_nil)))))) (dss_nil)) (dss_cons (ds_if (pt_bo (pw_and' (pt_eq ((pd_var 4).w) ((pd_int).w)) (pw_and1' (pt_ge ((pd_ix ((pd_var 8).w) ((pd_var 10).w)).w) ((pd_int).w))))) (dss_one (ds_append (i := 9) (by exact rfl) (pd_lst (da_cons (pd_var 10) (da_cons (pd_int' (by exact rfl) F.n_int ((pd_eq ((pd_ix ((pd_var 8).w) ((pd_var 10).w)).w) ((pd_int).w)).w)) (da_nil)))))) (dss_nil)) (dss_one (ds_if (pt_eq ((pd_var 4).w) ((pd_int).w)) (dss_one (ds_append (i := 9) (by exact rfl) (pd_lst (da_cons (pd_var 10) (da_cons (pd_int) (da_nil)))))) (dss_nil)))))) (dss_cons (ds_own (i := 11) (by exact rfl) (by exact Nat.le_of_ble_eq_true rfl) (by exact Or.inl rfl) (pf_lst (da_nil))) (dss_cons (ds_for (di_range (by exact rfl) F.n_range (pd_var 3)) (dg_name (i := 12) (by exact rfl) (by exact Nat.le_of_ble_eq_true rfl) (by exact Or.inl rfl)) (dss_cons (ds_set (i := 13) (by exact rfl) (by exact Nat.le_of_ble_eq_true rfl) (by exact Or.inl rfl) (pd_ix ((pd_var 8).w) ((pd_add ((pd_var 6).w) ((pd_var 12).w)).w))) (dss_one (ds_append (i := 11) (by exact rfl) (pd_add ((pd_int' (by exact rfl) F.n_int ((pd_eq ((pd_var 13).w) ((pd_sub ((pd_var 7).w) ((pd_int).w)).w)).w)).w) ((pd_mul ((pd_int).w) ((pd_int' (by exact rfl) F.n_int ((pd_eq ((pd_var 13).w) ((pd_sub ((pd_var 7).w) ((pd_int).w)).w)).w)).w)).w)))))) (dss_one (ds_frz [9, 11] (ds_append (i := 5) (by exact rfl) (pd_lst (da_cons (pd_var 9) (da_cons (pd_var 11) (da_nil))))))))))))))) (dss_one (ds_frz [5] (ds_ret (pd_var 5)))))
theorem k_law_dense {w : World} {K : PySem.W.Frag} {mg : Str → Option Value} {base : Heap} (F : Fx K mg) : Fk PG w K mg base (gg F) "_law_dense" d_law_dense 2 := ⟨_, _, _, (f_law_dense (w := w) (base := base) F).2.1, F.g__law_dense, (f_law_dense (w := w) (base := base) F).1, (f_law_dense (w := w) (base := base) F).2.2⟩
theorem sc_law_word : FnScope ["_law_style", "_law_k", "_law_letters", "_law_front", "_law_back"] ["_law_style", "_law_k"] (defScope (top 31)) := ⟨rfl, rfl, rfl, by decide +kernel, rfl, by decide +kernel, by decide +kernel⟩
theorem f_law_word {w : World} {K : PySem.W.Frag} {mg : Str → Option Value} {base : Heap} (F : Fx K mg) : PySem.W.keepIn K (.ref (gAd "_law_word" K)) = true ∧ FnOk PG w K mg base (L2.CX PG w) 1 (gAd "_law_word" K) F.d_law_word.choose ["_law_style", "_law_k"] (dsp (gg F) d_law_word) ∧ Binds K F.d_law_word.choose ["_law_style", "_law_k"] [] := by
  have FD := F.d_law_word.choose_spec
  refine ⟨FD.kp, fn_dsp FD rfl sc_law_word (Nat.le_of_ble_eq_true rfl) (k := 0) (b := b_law_word) (N := ["_law_style", "_law_k", "_law_letters", "_law_front", "_law_back"]) (fun cdv A outer s H E Ze => ?_), FD.bindsN fun _ _ _ _ _ _ us hl => match us, hl with | [_, _], _ => rfl⟩
  exact dss_cons (ds_set (i := 2) (by exact rfl) (by exact Nat.le_of_ble_eq_true rfl) (by exact Or.inl rfl) (pd_str)) (dss_cons (ds_set (i := 3) (by exact rfl) (by exact Nat.le_of_ble_eq_true rfl) (by exact Or.inl rfl) (pd_ix ((pd_lst (da_cons (pd_str) (da_cons (pd_str) (da_cons (pd_str) (da_cons (pd_str) (da_nil)))))).w) ((pd_mod ((pd_int' (by exact rfl) F.n_int ((pd_var 0).w)).w) ((pd_int).w)).w))) (dss_cons (ds_set (i := 4) (by exact rfl) (by exact Nat.le_of_ble_eq_true rfl) (by exact Or.inl rfl) (pd_ix ((pd_lst (da_cons (pd_str) (da_cons (pd_str) (da_cons (pd_str) (da_cons (pd_str) (da_nil)))))).w) ((pd_mod ((pd_fdiv ((pd_int' (by exact rfl) F.n_int ((pd_var 0).w)).w) ((pd_int).w)).w) ((pd_int).w)).w))) (dss_cons (ds_if (pt_eq ((pd_mod ((pd_fdiv ((pd_int' (by exact rfl) F.n_int ((pd_var 0).w)).w) ((pd_int).w)).w) ((pd_int).w)).w) ((pd_int).w)) (dss_one (ds_set (i := 4) (by exact rfl) (by exact Nat.le_of_ble_eq_true rfl) (by exact Or.inl rfl) (pd_add ((pd_var 4).w) ((pd_mul ((pd_str).w) ((pd_int' (by exact rfl) F.n_int ((pd_mod ((pd_int' (by exact rfl) F.n_int ((pd_var 1).w)).w) ((pd_int).w)).w)).w)).w)))) (dss_nil)) (dss_cons (ds_if (pt_ge ((pd_var 1).w) ((pd_int).w)) (dss_one (ds_set (i := 4) (by exact rfl) (by exact Nat.le_of_ble_eq_true rfl) (by exact Or.inl rfl) (pd_add ((pd_str).w) ((pd_var 4).w)))) (dss_nil)) (dss_one (ds_ret (pd_add ((pd_add ((pd_var 3).w) ((pd_ix ((pd_var 2).w) ((pd_mod ((pd_int' (by exact rfl) F.n_int ((pd_add ((pd_mul ((pd_var 1).w) ((pd_int).w)).w) ((pd_fdiv ((pd_int' (by exact rfl) F.n_int ((pd_var 0).w)).w) ((pd_int).w)).w)).w)).w) ((pd_int).w)).w)).w)).w) ((pd_var 4).w))))))))
theorem k_law_word {w : World} {K : PySem.W.Frag} {mg : Str → Option Value} {base : Heap} (F : Fx K mg) : Fk PG w K mg base (gg F) "_law_word" d_law_word 1 := ⟨_, _, _, (f_law_word (w := w) (base := base) F).2.1, F.g__law_word, (f_law_word (w := w) (base := base) F).1, (f_law_word (w := w) (base := base) F).2.2⟩
theorem sc_Titled_is_word : FnScope ["text", "char"] ["text"] (defScope (L2.inClass (top 17) 1)) := ⟨rfl, rfl, rfl, by decide +kernel, rfl, by decide +kernel, by decide +kernel⟩
theorem f_Titled_is_word {w : World} {K : PySem.W.Frag} {mg : Str → Option Value} {base : Heap} (F : Fx K mg) : PySem.W.keepIn K (.ref (sAd "Titled" "is_word" K)) = true ∧ FnOk PG w K mg base (L2.CX PG w) 1 (sAd "Titled" "is_word" K) F.d_Titled_is_word.choose ["text"] (dsp (gg F) d_Titled_is_word) ∧ Binds K F.d_Titled_is_word.choose ["text"] [] := by
  have FD := F.d_Titled_is_word.choose_spec
  refine ⟨FD.kp, fn_dsp FD rfl sc_Titled_is_word (Nat.le_of_ble_eq_true rfl) (k := 0) (b := b_Titled_is_word) (N := ["text", "char"]) (fun cdv A outer s H E Ze => ?_), FD.bindsN fun _ _ _ _ _ _ us hl => match us, hl with | [_], _ => rfl⟩
  exact dss_cons (ds_if (pt_bo (pw_or' (pt_lt ((pd_len (by exact rfl) F.n_len ((pd_var 0).w)).w) ((pd_int).w)) (pw_or' (pt_gt ((pd_len (by exact rfl) F.n_len ((pd_var 0).w)).w) ((pd_gint (by exact rfl) F.c_LONGEST).w)) (pw_or1' (pt_notin ((pd_ix ((pd_var 0).w) ((pd_int).w)).w) ((pd_gstr (by exact rfl) F.c_LETTERS).w)))))) (dss_one (ds_ret (pd_bl))) (dss_nil)) (dss_cons (ds_for (di_of (pd_var 0)) (dg_name (i := 1) (by exact rfl) (by exact Nat.le_of_ble_eq_true rfl) (by exact Or.inl rfl)) (dss_one (ds_if (pt_bo (pw_and' (pt_notin ((pd_var 1).w) ((pd_gstr (by exact rfl) F.c_LETTERS).w)) (pw_and1' (pt_notin ((pd_var 1).w) ((pd_gstr (by exact rfl) F.c_DIGITS).w))))) (dss_one (ds_ret (pd_bl))) (dss_nil)))) (dss_one (ds_ret (pd_bl))))
theorem sc_Titled_init : FnScope ["self", "title"] ["self", "title"] (defScope (L2.inClass (top 17) 0)) := ⟨rfl, rfl, rfl, by decide +kernel, rfl, by decide +kernel, by decide +kernel⟩
theorem f_Titled_init {w : World} {K : PySem.W.Frag} {mg : Str → Option Value} {base : Heap} (F : Fx K mg) : PySem.W.keepIn K (.ref (mAd "Titled" "__init__" K)) = true ∧ FnOk PG w K mg base (L2.CX PG w) 3 (mAd "Titled" "__init__" K) F.d_Titled_init.choose ["self", "title"] (dspM (gg F) d_Titled_init) ∧ Binds K F.d_Titled_init.choose ["self", "title"] [] := by
  have FD := F.d_Titled_init.choose_spec
  refine ⟨FD.kp, fn_init FD rfl sc_Titled_init (Nat.le_of_ble_eq_true rfl) (k := 2) (b := b_Titled_init) (N := ["self", "title"]) (fun cdv A outer s H E Ze sa => ?_), FD.bindsN fun _ _ _ _ _ _ us hl => match us, hl with | [_, _], _ => rfl⟩
  exact dss_cons (ds_if (pt_not' (pt_tru ((pd_cfn (by exact rfl) F.g_Titled F.sm_Titled_is_word (f_Titled_is_word (w := w) (base := base) F).2.1 (f_Titled_is_word (w := w) (base := base) F).2.2 (by exact Nat.le_of_ble_eq_true rfl) (da_cons (pd_var 1) (da_nil))).w))) (dss_one (ds_raise (x_InvalidWord (w := w) (base := base) F) (by exact Nat.le_of_ble_eq_true rfl) (by exact rfl) (da_cons (pd_var 1) (da_nil)))) (dss_nil)) (dss_one (ds_fld (i := 0) (by exact rfl) (pd_var 1)))
theorem sc_Declaring_init : FnScope ["self", "names", "statics", "given", "word"] ["self", "names", "statics"] (defScope (L2.inClass (top 19) 0)) := ⟨rfl, rfl, rfl, by decide +kernel, rfl, by decide +kernel, by decide +kernel⟩
theorem f_Declaring_init {w : World} {K : PySem.W.Frag} {mg : Str → Option Value} {base : Heap} (F : Fx K mg) : PySem.W.keepIn K (.ref (mAd "Declaring" "__init__" K)) = true ∧ FnOk PG w K mg base (L2.CX PG w) 3 (mAd "Declaring" "__init__" K) F.d_Declaring_init.choose ["self", "names", "statics"] (dspM (gg F) d_Declaring_init) ∧ Binds K F.d_Declaring_init.choose ["self", "names", "statics"] [] := by
  have FD := F.d_Declaring_init.choose_spec
  refine ⟨FD.kp, fn_init FD rfl sc_Declaring_init (Nat.le_of_ble_eq_true rfl) (k := 2) (b := b_Declaring_init) (N := ["self", "names", "statics", "given", "word"]) (fun cdv A outer s H E Ze sa => ?_), FD.bindsN fun _ _ _ _ _ _ us hl => match us, hl with | [_, _, _], _ => rfl⟩
  exact dss_cons (ds_own (i := 3) (by exact rfl) (by exact Nat.le_of_ble_eq_true rfl) (by exact Or.inl rfl) (pf_lst (da_nil))) (dss_cons (ds_for (di_of (pd_add ((pd_list (by exact rfl) F.n_list ((pd_var 1).w)).w) ((pd_list (by exact rfl) F.n_list ((pd_var 2).w)).w))) (dg_name (i := 4) (by exact rfl) (by exact Nat.le_of_ble_eq_true rfl) (by exact Or.inl rfl)) (dss_cons (ds_if (pt_not' (pt_tru ((pd_cfn (by exact rfl) F.g_Titled F.sm_Titled_is_word (f_Titled_is_word (w := w) (base := base) F).2.1 (f_Titled_is_word (w := w) (base := base) F).2.2 (by exact Nat.le_of_ble_eq_true rfl) (da_cons (pd_var 4) (da_nil))).w))) (dss_one (ds_raise (x_InvalidWord (w := w) (base := base) F) (by exact Nat.le_of_ble_eq_true rfl) (by exact rfl) (da_cons (pd_var 4) (da_nil)))) (dss_nil)) (dss_cons (ds_if (pt_in ((pd_var 4).w) (pd_look 3)) (dss_one (ds_raise (x_DuplicateName (w := w) (base := base) F) (by exact Nat.le_of_ble_eq_true rfl) (by exact rfl) (da_cons (pd_var 4) (da_nil)))) (dss_nil)) (dss_one (ds_append (i := 3) (by exact rfl) (pd_var 4)))))) (dss_cons (ds_fld (i := 0) (by exact rfl) (pd_tuple (by exact rfl) F.n_tuple ((pd_var 1).w))) (dss_one (ds_fld (i := 0) (by exact rfl) (pd_tuple (by exact rfl) F.n_tuple ((pd_var 2).w))))))
theorem sc_Kind_init : FnScope ["self", "draft", "above", "shared_bases"] ["self", "draft", "above", "shared_bases"] (defScope (L2.inClass (top 22) 0)) := ⟨rfl, rfl, rfl, by decide +kernel, rfl, by decide +kernel, by decide +kernel⟩
theorem f_Kind_init {w : World} {K : PySem.W.Frag} {mg : Str → Option Value} {base : Heap} (F : Fx K mg) : PySem.W.keepIn K (.ref (mAd "Kind" "__init__" K)) = true ∧ FnOk PG w K mg base (L2.CX PG w) 4 (mAd "Kind" "__init__" K) F.d_Kind_init.choose ["self", "draft", "above", "shared_bases"] (dspM (gg F) d_Kind_init) ∧ Binds K F.d_Kind_init.choose ["self", "draft", "above", "shared_bases"] [] := by
  have FD := F.d_Kind_init.choose_spec
  refine ⟨FD.kp, fn_init FD rfl sc_Kind_init (Nat.le_of_ble_eq_true rfl) (k := 3) (b := b_Kind_init) (N := ["self", "draft", "above", "shared_bases"]) (fun cdv A outer s H E Ze sa => ?_), FD.bindsN fun _ _ _ _ _ _ us hl => match us, hl with | [_, _, _, _], _ => rfl⟩
  exact dss_cons (ds_init (by exact rfl) F.g_Titled F.pm_Titled_init (f_Titled_init (w := w) (base := base) F).2.1 (f_Titled_init (w := w) (base := base) F).2.2 (by exact Nat.le_of_ble_eq_true rfl) (i := 0) (by exact rfl) (da_cons (pd_fld ((pd_var 1).w)) (da_nil))) (dss_cons (ds_init (by exact rfl) F.g_Declaring F.pm_Declaring_init (f_Declaring_init (w := w) (base := base) F).2.1 (f_Declaring_init (w := w) (base := base) F).2.2 (by exact Nat.le_of_ble_eq_true rfl) (i := 0) (by exact rfl) (da_cons (pd_fld ((pd_var 1).w)) (da_cons (pd_fld ((pd_var 1).w)) (da_nil)))) (dss_cons (ds_fld (i := 0) (by exact rfl) (pd_tuple (by exact rfl) F.n_tuple ((pd_fld ((pd_var 1).w)).w))) (dss_cons (ds_fld (i := 0) (by exact rfl) (pd_var 2)) (dss_one (ds_fld (i := 0) (by exact rfl) (pd_var 3))))))
theorem c_Kind_init {w : World} {K : PySem.W.Frag} {mg : Str → Option Value} {base : Heap} (F : Fx K mg) : Ck PG w K mg base (gg F) "Kind" "Kind" d_Kind_init 4 := ⟨_, _, _, (f_Kind_init (w := w) (base := base) F).2.1, F.mk_Kind, F.g_Kind, (f_Kind_init (w := w) (base := base) F).2.2, Or.inr (Or.inr (Or.inl rfl))⟩
theorem sc_Library_admit : FnScope ["self", "draft", "above", "shared", "base", "kind", "title", "titles", "above_titles", "shared_titles", "name"] ["self", "draft"] (defScope (L2.inClass (top 27) 1)) := ⟨rfl, rfl, rfl, by decide +kernel, rfl, by decide +kernel, by decide +kernel⟩
theorem f_Library_admit {w : World} {K : PySem.W.Frag} {mg : Str → Option Value} {base : Heap} (F : Fx K mg) : PySem.W.keepIn K (.ref (mAd "Library" "admit" K)) = true ∧ FnOk PG w K mg base (L2.CX PG w) 6 (mAd "Library" "admit" K) F.d_Library_admit.choose ["self", "draft"] (dspG (gg F) d_Library_admit) ∧ Binds K F.d_Library_admit.choose ["self", "draft"] [] := by
  have FD := F.d_Library_admit.choose_spec
  refine ⟨FD.kp, fn_initG FD rfl sc_Library_admit (Nat.le_of_ble_eq_true rfl) (k := 5) (b := b_Library_admit) (N := ["self", "draft", "above", "shared", "base", "kind", "title", "titles", "above_titles", "shared_titles", "name"]) (fun cdv A outer s H E Ze sa => ?_), FD.bindsN fun _ _ _ _ _ _ us hl => match us, hl with | [_, _], _ => rfl⟩
  exact dss_cons (ds_if (pt_in ((pd_fld ((pd_var 1).w)).w) (pd_self 0 (by exact rfl))) (dss_one (ds_raise (x_DuplicateClass (w := w) (base := base) F) (by exact Nat.le_of_ble_eq_true rfl) (by exact rfl) (da_cons (pd_fld ((pd_var 1).w)) (da_nil)))) (dss_nil)) (dss_cons (ds_own (i := 2) (by exact rfl) (by exact Nat.le_of_ble_eq_true rfl) (by exact Or.inr rfl) (pf_dict0)) (dss_cons (ds_own (i := 3) (by exact rfl) (by exact Nat.le_of_ble_eq_true rfl) (by exact Or.inr rfl) (pf_dict0)) (dss_cons (ds_for (di_of (pd_fld ((pd_var 1).w))) (dg_name (i := 4) (by exact rfl) (by exact Nat.le_of_ble_eq_true rfl) (by exact Or.inl rfl)) (dss_cons (ds_if (pt_notin ((pd_fld ((pd_var 4).w)).w) (pd_self 0 (by exact rfl))) (dss_one (ds_raise (x_UnknownClass (w := w) (base := base) F) (by exact Nat.le_of_ble_eq_true rfl) (by exact rfl) (da_cons (pd_fld ((pd_var 4).w)) (da_nil)))) (dss_nil)) (dss_cons (ds_set (i := 5) (by exact rfl) (by exact Nat.le_of_ble_eq_true rfl) (by exact Or.inl rfl) (pd_ix (pd_self 0 (by exact rfl)) ((pd_ix (pd_self 0 (by exact rfl)) ((pd_fld ((pd_var 4).w)).w)).w))) (dss_cons (ds_dput (i := 2) (by exact rfl) ((pd_fld ((pd_var 4).w)).w) (pd_bl)) (dss_cons (ds_for (di_of (pd_fld ((pd_var 5).w))) (dg_name (i := 6) (by exact rfl) (by exact Nat.le_of_ble_eq_true rfl) (by exact Or.inl rfl)) (dss_one (ds_dput (i := 2) (by exact rfl) ((pd_var 6).w) (pd_bl)))) (dss_cons (ds_for (di_of (pd_fld ((pd_var 5).w))) (dg_name (i := 6) (by exact rfl) (by exact Nat.le_of_ble_eq_true rfl) (by exact Or.inl rfl)) (dss_one (ds_dput (i := 3) (by exact rfl) ((pd_var 6).w) (pd_bl)))) (dss_one (ds_if (pt_tru ((pd_fld ((pd_var 4).w)).w)) (dss_one (ds_dput (i := 3) (by exact rfl) ((pd_fld ((pd_var 4).w)).w) (pd_bl))) (dss_nil))))))))) (dss_cons (ds_comp (i := 7) (by exact rfl) (by exact Nat.le_of_ble_eq_true rfl) (by exact rfl) (by exact sw_true rfl rfl rfl (by decide +kernel)) (own := [("kind", 5)]) (is := [5]) (di_lst (pd_self 0 (by exact rfl))) (blkOk_by (by show blkC ["self", "draft", "above", "shared", "base", "kind", "title", "titles", "above_titles", "shared_titles", "name"] (defScope (L2.inClass (top 27) 1)) _ _ = true; decide +kernel)) (by decide) (fun _ _ _ _ _ _ => dg_name (i := 5) (by exact rfl) (by exact Nat.le_of_ble_eq_true rfl) (by exact Or.inl rfl)) (fun _ _ _ _ _ _ => dts_nil) (fun _ _ _ _ _ _ => pd_fld ((pd_var 5).w))) (dss_cons (ds_gput (i := 0) (by exact rfl) ((pd_fld ((pd_var 1).w)).w) (pd_len (by exact rfl) F.n_len (pd_self 0 (by exact rfl)))) (dss_cons (ds_set (i := 8) (by exact rfl) (by exact Nat.le_of_ble_eq_true rfl) (by exact Or.inl rfl) (pd_tuple (by exact rfl) F.n_tuple ((pd_comp (own := [("title", 6)]) (is := [6]) (PDI.w (di_of (pd_var 7))) (blkOk_by (by show blkC ["self", "draft", "above", "shared", "base", "kind", "title", "titles", "above_titles", "shared_titles", "name"] (defScope (L2.inClass (top 27) 1)) _ _ = true; decide +kernel)) (by decide) (fun _ _ _ _ _ _ => dg_name (i := 6) (by exact rfl) (by exact Nat.le_of_ble_eq_true rfl) (by exact Or.inl rfl)) (fun _ _ _ _ _ _ => dts_one (pt_in ((pd_var 6).w) (pd_look 2))) (fun _ _ _ _ _ _ => pd_var 6)).w))) (dss_cons (ds_set (i := 9) (by exact rfl) (by exact Nat.le_of_ble_eq_true rfl) (by exact Or.inl rfl) (pd_tuple (by exact rfl) F.n_tuple ((pd_comp (own := [("title", 6)]) (is := [6]) (PDI.w (di_of (pd_var 7))) (blkOk_by (by show blkC ["self", "draft", "above", "shared", "base", "kind", "title", "titles", "above_titles", "shared_titles", "name"] (defScope (L2.inClass (top 27) 1)) _ _ = true; decide +kernel)) (by decide) (fun _ _ _ _ _ _ => dg_name (i := 6) (by exact rfl) (by exact Nat.le_of_ble_eq_true rfl) (by exact Or.inl rfl)) (fun _ _ _ _ _ _ => dts_one (pt_in ((pd_var 6).w) (pd_look 3))) (fun _ _ _ _ _ _ => pd_var 6)).w))) (dss_cons (ds_gapp (i := 0) (by exact rfl) (pd_make (c_Kind_init (w := w) (base := base) F) (by exact Nat.le_of_ble_eq_true rfl) (by exact rfl) (da_cons (pd_var 1) (da_cons (pd_var 8) (da_cons (pd_var 9) (da_nil)))))) (dss_one (ds_for (di_of (pd_add ((pd_fld ((pd_var 1).w)).w) ((pd_fld ((pd_var 1).w)).w))) (dg_name (i := 10) (by exact rfl) (by exact Nat.le_of_ble_eq_true rfl) (by exact Or.inl rfl)) (dss_one (ds_if (pt_notin ((pd_var 10).w) (pd_self 0 (by exact rfl))) (dss_one (ds_fld (i := 0) (by exact rfl) (pd_add (pd_self 0 (by exact rfl)) ((pd_tup (da_cons (pd_var 10) (da_nil))).w)))) (dss_nil)))))))))))))
theorem gk_Library_admit {w : World} {K : PySem.W.Frag} {mg : Str → Option Value} {base : Heap} (F : Fx K mg) : Gk PG w K mg base (gg F) "Library" "admit" d_Library_admit 6 := ⟨_, _, _, (f_Library_admit (w := w) (base := base) F).2.1, F.me_Library_admit, (f_Library_admit (w := w) (base := base) F).2.2, by decide, F.cl_Library⟩
theorem sc_Library_init : FnScope ["self", "drafts", "draft"] ["self", "drafts"] (defScope (L2.inClass (top 27) 0)) := ⟨rfl, rfl, rfl, by decide +kernel, rfl, by decide +kernel, by decide +kernel⟩
theorem f_Library_init {w : World} {K : PySem.W.Frag} {mg : Str → Option Value} {base : Heap} (F : Fx K mg) : FnOk PG w K mg base (L2.CX PG w) 7 (mAd "Library" "__init__" K) F.d_Library_init.choose ["self", "drafts"] (dspM (gg F) d_Library_init) := by
  have FD := F.d_Library_init.choose_spec
  exact fn_initQ FD rfl sc_Library_init (Nat.le_of_ble_eq_true rfl) (k := 6) (b := b_Library_init) (N := ["self", "drafts", "draft"]) (fun cdv A outer s H E Ze sa => dss_cons (ds_gnew (i := 0) (by exact rfl) (pf_lst (da_nil)) (by exact Nat.le_of_ble_eq_true rfl)) (dss_cons (ds_gnew (i := 0) (by exact rfl) (pf_dict0) (by exact Nat.le_of_ble_eq_true rfl)) (dss_cons (ds_fld (i := 0) (by exact rfl) (pd_tup (da_nil))) (dss_one (ds_for (di_of (pd_var 1)) (dg_name (i := 2) (by exact rfl) (by exact Nat.le_of_ble_eq_true rfl) (by exact Or.inl rfl)) (dss_one (ds_gcall (gk_Library_admit (w := w) (base := base) F) (by exact Nat.le_of_ble_eq_true rfl) (i := 0) (by exact rfl) (da_cons (pd_var 2) (da_nil)))))))))
theorem c_Library_init {w : World} {K : PySem.W.Frag} {mg : Str → Option Value} {base : Heap} (F : Fx K mg) : Ck PG w K mg base (gg F) "Library" "Library" d_Library_init 7 := ⟨_, _, _, f_Library_init (w := w) (base := base) F, F.mk_Library, F.g_Library, bindsW F.d_Library_init.choose_spec fun T kV doc pm an cdv ct us its h1 h2 => match us, its, h1, h2 with | [_, _], [_], _, _ => ⟨_, rfl, rfl⟩, Or.inr (Or.inr (Or.inr (rfl)))⟩
theorem sc_Base_init : FnScope ["self", "title", "is_shared"] ["self", "title", "is_shared"] (defScope (L2.inClass (top 18) 0)) := ⟨rfl, rfl, rfl, by decide +kernel, rfl, by decide +kernel, by decide +kernel⟩
theorem f_Base_init {w : World} {K : PySem.W.Frag} {mg : Str → Option Value} {base : Heap} (F : Fx K mg) : FnOk PG w K mg base (L2.CX PG w) 4 (mAd "Base" "__init__" K) F.d_Base_init.choose ["self", "title", "is_shared"] (dspM (gg F) d_Base_init) := by
  have FD := F.d_Base_init.choose_spec
  exact fn_init FD rfl sc_Base_init (Nat.le_of_ble_eq_true rfl) (k := 3) (b := b_Base_init) (N := ["self", "title", "is_shared"]) (fun cdv A outer s H E Ze sa => dss_cons (ds_init (by exact rfl) F.g_Titled F.pm_Titled_init (f_Titled_init (w := w) (base := base) F).2.1 (f_Titled_init (w := w) (base := base) F).2.2 (by exact Nat.le_of_ble_eq_true rfl) (i := 0) (by exact rfl) (da_cons (pd_var 1) (da_nil))) (dss_one (ds_fld (i := 0) (by exact rfl) (pd_var 2))))
theorem c_Base_init {w : World} {K : PySem.W.Frag} {mg : Str → Option Value} {base : Heap} (F : Fx K mg) : Ck PG w K mg base (gg F) "Base" "Base" d_Base_init 4 := ⟨_, _, _, f_Base_init (w := w) (base := base) F, F.mk_Base, F.g_Base, bindsW F.d_Base_init.choose_spec fun T kV doc pm an cdv ct us its h1 h2 => match us, its, h1, h2 with | [_, _, _], [_], _, _ => ⟨_, rfl, rfl⟩, Or.inl rfl⟩
theorem sc_Draft_init : FnScope ["self", "title", "names", "statics", "bases", "given", "base"] ["self", "title", "names", "statics", "bases"] (defScope (L2.inClass (top 20) 0)) := ⟨rfl, rfl, rfl, by decide +kernel, rfl, by decide +kernel, by decide +kernel⟩
theorem f_Draft_init {w : World} {K : PySem.W.Frag} {mg : Str → Option Value} {base : Heap} (F : Fx K mg) : FnOk PG w K mg base (L2.CX PG w) 4 (mAd "Draft" "__init__" K) F.d_Draft_init.choose ["self", "title", "names", "statics", "bases"] (dspM (gg F) d_Draft_init) := by
  have FD := F.d_Draft_init.choose_spec
  exact fn_init FD rfl sc_Draft_init (Nat.le_of_ble_eq_true rfl) (k := 3) (b := b_Draft_init) (N := ["self", "title", "names", "statics", "bases", "given", "base"]) (fun cdv A outer s H E Ze sa => dss_cons (ds_init (by exact rfl) F.g_Titled F.pm_Titled_init (f_Titled_init (w := w) (base := base) F).2.1 (f_Titled_init (w := w) (base := base) F).2.2 (by exact Nat.le_of_ble_eq_true rfl) (i := 0) (by exact rfl) (da_cons (pd_var 1) (da_nil))) (dss_cons (ds_init (by exact rfl) F.g_Declaring F.pm_Declaring_init (f_Declaring_init (w := w) (base := base) F).2.1 (f_Declaring_init (w := w) (base := base) F).2.2 (by exact Nat.le_of_ble_eq_true rfl) (i := 0) (by exact rfl) (da_cons (pd_var 2) (da_cons (pd_var 3) (da_nil)))) (dss_cons (ds_own (i := 5) (by exact rfl) (by exact Nat.le_of_ble_eq_true rfl) (by exact Or.inl rfl) (pf_lst (da_nil))) (dss_cons (ds_for (di_of (pd_var 4)) (dg_name (i := 6) (by exact rfl) (by exact Nat.le_of_ble_eq_true rfl) (by exact Or.inl rfl)) (dss_cons (ds_if (pt_in ((pd_fld ((pd_var 6).w)).w) (pd_look 5)) (dss_one (ds_raise (x_DuplicateBase (w := w) (base := base) F) (by exact Nat.le_of_ble_eq_true rfl) (by exact rfl) (da_cons (pd_fld ((pd_var 6).w)) (da_nil)))) (dss_nil)) (dss_one (ds_append (i := 5) (by exact rfl) (pd_fld ((pd_var 6).w)))))) (dss_one (ds_fld (i := 0) (by exact rfl) (pd_tuple (by exact rfl) F.n_tuple ((pd_var 4).w))))))))
theorem kw_Draft_3 {w : World} {K : PySem.W.Frag} {mg : Str → Option Value} {base : Heap} (F : Fx K mg) : CkK PG w K mg base (gg F) "Draft" "Draft" 1 ["names", "statics", "bases"] gDr3 d_Draft_init 4 := by
  obtain ⟨mv, hk⟩ := L2.FunD.kbinds0 (ps := ["self", "title", "names", "statics", "bases"]) F.d_Draft_init.choose_spec 2 ["names", "statics", "bases"] [] (fun us mv ws => us ++ (ws ++ mv)) (by exact fun q => by cases q) (by exact fun q h => by cases h) (fun r1 r2 r3 => r1.append (r3.append r2)) (fun D doc pm an cdv ct us mv ws h1 h2 h3 => match us, mv, ws, h1, h2, h3 with | [_, _], [], [_, _, _], _, _, _ => rfl)
  exact ⟨_, _, _, _, _, f_Draft_init (w := w) (base := base) F, F.mk_Draft, F.g_Draft, cons0 hk, Or.inr (Or.inl rfl), fun Z H ds es vs us l1 l2 r1 r2 => r1.append (r2.append (RepL.nil))⟩
theorem sc_law_draftsD : FnScope ["_law_plan", "_law_words", "_law_labels", "_law_drafts_here", "_law_j", "_law_plain", "_law_fixed", "_law_links", "_law_m", "_law_link"] ["_law_plan", "_law_words", "_law_labels"] (defScope (top 33)) := ⟨rfl, rfl, rfl, by decide +kernel, rfl, by decide +kernel, by decide +kernel⟩
theorem f_law_draftsD {w : World} {K : PySem.W.Frag} {mg : Str → Option Value} {base : Heap} (F : Fx K mg) : PySem.W.keepIn K (.ref (gAd "_law_drafts" K)) = true ∧ FnOk PG w K mg base (L2.CX PG w) 6 (gAd "_law_drafts" K) F.d_law_draftsD.choose ["_law_plan", "_law_words", "_law_labels"] (dsp (gg F) d_law_draftsD) ∧ Binds K F.d_law_draftsD.choose ["_law_plan", "_law_words", "_law_labels"] [] := by
  have FD := F.d_law_draftsD.choose_spec
  refine ⟨FD.kp, fn_dsp FD rfl sc_law_draftsD (Nat.le_of_ble_eq_true rfl) (k := 5) (b := b_law_draftsD) (N := ["_law_plan", "_law_words", "_law_labels", "_law_drafts_here", "_law_j", "_law_plain", "_law_fixed", "_law_links", "_law_m", "_law_link"]) (fun cdv A outer s H E Ze => ?_), FD.bindsN fun _ _ _ _ _ _ us hl => match us, hl with | [_, _, _], _ => rfl⟩
  exact dss_cons (ds_own (i := 3) (by exact rfl) (by exact Nat.le_of_ble_eq_true rfl) (by exact Or.inl rfl) (pf_lst (da_nil))) (dss_cons (ds_for (di_range (by exact rfl) F.n_range (pd_len (by exact rfl) F.n_len ((pd_var 0).w))) (dg_name (i := 4) (by exact rfl) (by exact Nat.le_of_ble_eq_true rfl) (by exact Or.inr rfl)) (dss_cons (ds_comp (i := 5) (by exact rfl) (by exact Nat.le_of_ble_eq_true rfl) (by exact rfl) (by exact sw_true rfl rfl rfl (by decide +kernel)) (own := [("_law_m", 8)]) (is := [8]) (PDI.w (di_range (by exact rfl) F.n_range (pd_len (by exact rfl) F.n_len ((pd_var 2).w)))) (blkOk_by (by show blkC ["_law_plan", "_law_words", "_law_labels", "_law_drafts_here", "_law_j", "_law_plain", "_law_fixed", "_law_links", "_law_m", "_law_link"] (defScope (top 33)) _ _ = true; decide +kernel)) (by decide) (fun _ _ _ _ _ _ => dg_name (i := 8) (by exact rfl) (by exact Nat.le_of_ble_eq_true rfl) (by exact Or.inl rfl)) (fun _ _ _ _ _ _ => dts_one (pt_eq ((pd_ix ((pd_ix ((pd_ix ((pd_var 0).w) ((pd_var 4).w)).w) ((pd_int).w)).w) ((pd_var 8).w)).w) ((pd_int).w))) (fun _ _ _ _ _ _ => pd_ix ((pd_var 2).w) ((pd_var 8).w))) (dss_cons (ds_comp (i := 6) (by exact rfl) (by exact Nat.le_of_ble_eq_true rfl) (by exact rfl) (by exact sw_true rfl rfl rfl (by decide +kernel)) (own := [("_law_m", 8)]) (is := [8]) (PDI.w (di_range (by exact rfl) F.n_range (pd_len (by exact rfl) F.n_len ((pd_var 2).w)))) (blkOk_by (by show blkC ["_law_plan", "_law_words", "_law_labels", "_law_drafts_here", "_law_j", "_law_plain", "_law_fixed", "_law_links", "_law_m", "_law_link"] (defScope (top 33)) _ _ = true; decide +kernel)) (by decide) (fun _ _ _ _ _ _ => dg_name (i := 8) (by exact rfl) (by exact Nat.le_of_ble_eq_true rfl) (by exact Or.inl rfl)) (fun _ _ _ _ _ _ => dts_one (pt_eq ((pd_ix ((pd_ix ((pd_ix ((pd_var 0).w) ((pd_var 4).w)).w) ((pd_int).w)).w) ((pd_var 8).w)).w) ((pd_int).w))) (fun _ _ _ _ _ _ => pd_ix ((pd_var 2).w) ((pd_var 8).w))) (dss_cons (ds_comp (i := 7) (by exact rfl) (by exact Nat.le_of_ble_eq_true rfl) (by exact rfl) (by exact sw_true rfl rfl rfl (by decide +kernel)) (own := [("_law_link", 9)]) (is := [9]) (PDI.w (di_of (pd_ix ((pd_ix ((pd_var 0).w) ((pd_var 4).w)).w) ((pd_int).w)))) (blkOk_by (by show blkC ["_law_plan", "_law_words", "_law_labels", "_law_drafts_here", "_law_j", "_law_plain", "_law_fixed", "_law_links", "_law_m", "_law_link"] (defScope (top 33)) _ _ = true; decide +kernel)) (by decide) (fun _ _ _ _ _ _ => dg_name (i := 9) (by exact rfl) (by exact Nat.le_of_ble_eq_true rfl) (by exact Or.inl rfl)) (fun _ _ _ _ _ _ => dts_nil) (fun _ _ _ _ _ _ => pd_make (c_Base_init (w := w) (base := base) F) (by exact Nat.le_of_ble_eq_true rfl) (by exact rfl) (da_cons (pd_ix ((pd_var 1).w) ((pd_ix ((pd_var 9).w) ((pd_int).w)).w)) (da_cons (pd_eq ((pd_ix ((pd_var 9).w) ((pd_int).w)).w) ((pd_int).w)) (da_nil))))) (dss_one (ds_append (i := 3) (by exact rfl) (pd_makeK (kw_Draft_3 (w := w) (base := base) F) (by exact Nat.le_of_ble_eq_true rfl) (by exact rfl) (da_cons (pd_ix ((pd_var 1).w) ((pd_var 4).w)) (da_nil)) (dk_cons (pd_var 5) (dk_cons (pd_var 6) (dk_cons (pd_var 7) (dk_nil)))) rfl))))))) (dss_one (ds_frz [3] (ds_ret (pd_var 3)))))
theorem k_law_draftsD {w : World} {K : PySem.W.Frag} {mg : Str → Option Value} {base : Heap} (F : Fx K mg) : Fk PG w K mg base (gg F) "_law_drafts" d_law_draftsD 6 := ⟨_, _, _, (f_law_draftsD (w := w) (base := base) F).2.1, F.g__law_drafts, (f_law_draftsD (w := w) (base := base) F).1, (f_law_draftsD (w := w) (base := base) F).2.2⟩
theorem sc_law_shared : FnScope ["_law_plan", "_law_table", "_law_j", "_law_mine", "_law_link", "_law_k"] ["_law_plan"] (defScope (top 34)) := ⟨rfl, rfl, rfl, by decide +kernel, rfl, by decide +kernel, by decide +kernel⟩
theorem f_law_shared {w : World} {K : PySem.W.Frag} {mg : Str → Option Value} {base : Heap} (F : Fx K mg) : PySem.W.keepIn K (.ref (gAd "_law_shared" K)) = true ∧ FnOk PG w K mg base (L2.CX PG w) 1 (gAd "_law_shared" K) F.d_law_shared.choose ["_law_plan"] (dsp (gg F) d_law_shared) ∧ Binds K F.d_law_shared.choose ["_law_plan"] [] := by
  have FD := F.d_law_shared.choose_spec
  refine ⟨FD.kp, fn_dsp FD rfl sc_law_shared (Nat.le_of_ble_eq_true rfl) (k := 0) (b := b_law_shared) (N := ["_law_plan", "_law_table", "_law_j", "_law_mine", "_law_link", "_law_k"]) (fun cdv A outer s H E Ze => ?_), FD.bindsN fun _ _ _ _ _ _ us hl => match us, hl with | [_], _ => rfl⟩
  exact dss_cons (ds_own (i := 1) (by exact rfl) (by exact Nat.le_of_ble_eq_true rfl) (by exact Or.inl rfl) (pf_lst (da_nil))) (dss_cons (ds_for (di_range (by exact rfl) F.n_range (pd_len (by exact rfl) F.n_len ((pd_var 0).w))) (dg_name (i := 2) (by exact rfl) (by exact Nat.le_of_ble_eq_true rfl) (by exact Or.inl rfl)) (dss_cons (ds_own (i := 3) (by exact rfl) (by exact Nat.le_of_ble_eq_true rfl) (by exact Or.inl rfl) (pf_lst (da_nil))) (dss_cons (ds_for (di_of (pd_ix ((pd_ix ((pd_var 0).w) ((pd_var 2).w)).w) ((pd_int).w))) (dg_name (i := 4) (by exact rfl) (by exact Nat.le_of_ble_eq_true rfl) (by exact Or.inl rfl)) (dss_cons (ds_for (di_of (pd_ix (pd_look 1) ((pd_ix ((pd_var 4).w) ((pd_int).w)).w))) (dg_name (i := 5) (by exact rfl) (by exact Nat.le_of_ble_eq_true rfl) (by exact Or.inl rfl)) (dss_one (ds_if (pt_notin ((pd_var 5).w) (pd_look 3)) (dss_one (ds_append (i := 3) (by exact rfl) (pd_var 5))) (dss_nil)))) (dss_one (ds_if (pt_bo (pw_and' (pt_eq ((pd_ix ((pd_var 4).w) ((pd_int).w)).w) ((pd_int).w)) (pw_and1' (pt_notin ((pd_ix ((pd_var 4).w) ((pd_int).w)).w) (pd_look 3))))) (dss_one (ds_append (i := 3) (by exact rfl) (pd_ix ((pd_var 4).w) ((pd_int).w)))) (dss_nil))))) (dss_one (ds_frz [3] (ds_append (i := 1) (by exact rfl) (pd_var 3))))))) (dss_one (ds_frz [1] (ds_ret (pd_var 1)))))
theorem k_law_shared {w : World} {K : PySem.W.Frag} {mg : Str → Option Value} {base : Heap} (F : Fx K mg) : Fk PG w K mg base (gg F) "_law_shared" d_law_shared 1 := ⟨_, _, _, (f_law_shared (w := w) (base := base) F).2.1, F.g__law_shared, (f_law_shared (w := w) (base := base) F).1, (f_law_shared (w := w) (base := base) F).2.2⟩
theorem sc_law_above : FnScope ["_law_plan", "_law_top", "_law_found", "_law_at", "_law_link"] ["_law_plan", "_law_top"] (defScope (top 35)) := ⟨rfl, rfl, rfl, by decide +kernel, rfl, by decide +kernel, by decide +kernel⟩
theorem f_law_above {w : World} {K : PySem.W.Frag} {mg : Str → Option Value} {base : Heap} (F : Fx K mg) : PySem.W.keepIn K (.ref (gAd "_law_above" K)) = true ∧ FnOk PG w K mg base (L2.CX PG w) 1 (gAd "_law_above" K) F.d_law_above.choose ["_law_plan", "_law_top"] (dsp (gg F) d_law_above) ∧ Binds K F.d_law_above.choose ["_law_plan", "_law_top"] [] := by
  have FD := F.d_law_above.choose_spec
  refine ⟨FD.kp, fn_dsp FD rfl sc_law_above (Nat.le_of_ble_eq_true rfl) (k := 0) (b := b_law_above) (N := ["_law_plan", "_law_top", "_law_found", "_law_at", "_law_link"]) (fun cdv A outer s H E Ze => ?_), FD.bindsN fun _ _ _ _ _ _ us hl => match us, hl with | [_, _], _ => rfl⟩
  exact dss_cons (ds_own (i := 2) (by exact rfl) (by exact Nat.le_of_ble_eq_true rfl) (by exact Or.inl rfl) (pf_lst (da_cons (pd_var 1) (da_nil)))) (dss_cons (ds_for (di_range (by exact rfl) F.n_range (pd_int)) (dg_name (i := 3) (by exact rfl) (by exact Nat.le_of_ble_eq_true rfl) (by exact Or.inl rfl)) (dss_cons (ds_if (pt_eq ((pd_var 3).w) ((pd_len (by exact rfl) F.n_len (pd_look 2)).w)) (dss_one (ds_break)) (dss_nil)) (dss_one (ds_for (di_of (pd_ix ((pd_ix ((pd_var 0).w) ((pd_ix (pd_look 2) ((pd_var 3).w)).w)).w) ((pd_int).w))) (dg_name (i := 4) (by exact rfl) (by exact Nat.le_of_ble_eq_true rfl) (by exact Or.inl rfl)) (dss_one (ds_if (pt_notin ((pd_ix ((pd_var 4).w) ((pd_int).w)).w) (pd_look 2)) (dss_one (ds_append (i := 2) (by exact rfl) (pd_ix ((pd_var 4).w) ((pd_int).w)))) (dss_nil))))))) (dss_one (ds_frz [2] (ds_ret (pd_var 2)))))
theorem k_law_above {w : World} {K : PySem.W.Frag} {mg : Str → Option Value} {base : Heap} (F : Fx K mg) : Fk PG w K mg base (gg F) "_law_above" d_law_above 1 := ⟨_, _, _, (f_law_above (w := w) (base := base) F).2.1, F.g__law_above, (f_law_above (w := w) (base := base) F).1, (f_law_above (w := w) (base := base) F).2.2⟩
theorem sc_law_counts : FnScope ["_law_plan", "_law_low", "_law_counts_here", "_law_j", "_law_total", "_law_link"] ["_law_plan", "_law_low"] (defScope (top 36)) := ⟨rfl, rfl, rfl, by decide +kernel, rfl, by decide +kernel, by decide +kernel⟩
theorem f_law_counts {w : World} {K : PySem.W.Frag} {mg : Str → Option Value} {base : Heap} (F : Fx K mg) : PySem.W.keepIn K (.ref (gAd "_law_counts" K)) = true ∧ FnOk PG w K mg base (L2.CX PG w) 1 (gAd "_law_counts" K) F.d_law_counts.choose ["_law_plan", "_law_low"] (dsp (gg F) d_law_counts) ∧ Binds K F.d_law_counts.choose ["_law_plan", "_law_low"] [] := by
  have FD := F.d_law_counts.choose_spec
  refine ⟨FD.kp, fn_dsp FD rfl sc_law_counts (Nat.le_of_ble_eq_true rfl) (k := 0) (b := b_law_counts) (N := ["_law_plan", "_law_low", "_law_counts_here", "_law_j", "_law_total", "_law_link"]) (fun cdv A outer s H E Ze => ?_), FD.bindsN fun _ _ _ _ _ _ us hl => match us, hl with | [_, _], _ => rfl⟩
  exact dss_cons (ds_own (i := 2) (by exact rfl) (by exact Nat.le_of_ble_eq_true rfl) (by exact Or.inl rfl) (pf_lst (da_nil))) (dss_cons (ds_for (di_range (by exact rfl) F.n_range (pd_len (by exact rfl) F.n_len ((pd_var 0).w))) (dg_name (i := 3) (by exact rfl) (by exact Nat.le_of_ble_eq_true rfl) (by exact Or.inl rfl)) (dss_cons (ds_set (i := 4) (by exact rfl) (by exact Nat.le_of_ble_eq_true rfl) (by exact Or.inl rfl) (pd_int' (by exact rfl) F.n_int ((pd_eq ((pd_var 3).w) ((pd_var 1).w)).w))) (dss_cons (ds_for (di_of (pd_ix ((pd_ix ((pd_var 0).w) ((pd_var 3).w)).w) ((pd_int).w))) (dg_name (i := 5) (by exact rfl) (by exact Nat.le_of_ble_eq_true rfl) (by exact Or.inl rfl)) (dss_one (ds_if (pt_eq ((pd_ix ((pd_var 5).w) ((pd_int).w)).w) ((pd_int).w)) (dss_one (ds_set (i := 4) (by exact rfl) (by exact Nat.le_of_ble_eq_true rfl) (by exact Or.inl rfl) (pd_add ((pd_var 4).w) ((pd_ix (pd_look 2) ((pd_ix ((pd_var 5).w) ((pd_int).w)).w)).w)))) (dss_nil)))) (dss_one (ds_append (i := 2) (by exact rfl) (pd_var 4)))))) (dss_one (ds_frz [2] (ds_ret (pd_var 2)))))
theorem k_law_counts {w : World} {K : PySem.W.Frag} {mg : Str → Option Value} {base : Heap} (F : Fx K mg) : Fk PG w K mg base (gg F) "_law_counts" d_law_counts 1 := ⟨_, _, _, (f_law_counts (w := w) (base := base) F).2.1, F.g__law_counts, (f_law_counts (w := w) (base := base) F).1, (f_law_counts (w := w) (base := base) F).2.2⟩
theorem sc_law_commas : FnScope ["_law_number", "_law_digits", "_law_parts", "_law_k"] ["_law_number"] (defScope (top 37)) := ⟨rfl, rfl, rfl, by decide +kernel, rfl, by decide +kernel, by decide +kernel⟩
theorem f_law_commas {w : World} {K : PySem.W.Frag} {mg : Str → Option Value} {base : Heap} (F : Fx K mg) : PySem.W.keepIn K (.ref (gAd "_law_commas" K)) = true ∧ FnOk PG w K mg base (L2.CX PG w) 1 (gAd "_law_commas" K) F.d_law_commas.choose ["_law_number"] (dsp (gg F) d_law_commas) ∧ Binds K F.d_law_commas.choose ["_law_number"] [] := by
  have FD := F.d_law_commas.choose_spec
  refine ⟨FD.kp, fn_dsp FD rfl sc_law_commas (Nat.le_of_ble_eq_true rfl) (k := 0) (b := b_law_commas) (N := ["_law_number", "_law_digits", "_law_parts", "_law_k"]) (fun cdv A outer s H E Ze => ?_), FD.bindsN fun _ _ _ _ _ _ us hl => match us, hl with | [_], _ => rfl⟩
  exact dss_cons (ds_set (i := 1) (by exact rfl) (by exact Nat.le_of_ble_eq_true rfl) (by exact Or.inl rfl) (pd_strI (by exact rfl) F.n_str (pd_var 0))) (dss_cons (ds_set (i := 2) (by exact rfl) (by exact Nat.le_of_ble_eq_true rfl) (by exact Or.inl rfl) (pd_lst (da_nil))) (dss_cons (ds_for (di_range (by exact rfl) F.n_range (pd_int)) (dg_name (i := 3) (by exact rfl) (by exact Nat.le_of_ble_eq_true rfl) (by exact Or.inl rfl)) (dss_cons (ds_if (pt_le ((pd_len (by exact rfl) F.n_len ((pd_var 1).w)).w) ((pd_int).w)) (dss_one (ds_break)) (dss_nil)) (dss_cons (ds_set (i := 2) (by exact rfl) (by exact Nat.le_of_ble_eq_true rfl) (by exact Or.inl rfl) (pd_add ((pd_lst (da_cons (pd_slice ((pd_var 1).w) (px_some ((pd_neg ((pd_int).w)).w)) (px_none)) (da_nil))).w) ((pd_var 2).w))) (dss_one (ds_set (i := 1) (by exact rfl) (by exact Nat.le_of_ble_eq_true rfl) (by exact Or.inl rfl) (pd_slice ((pd_var 1).w) (px_none) (px_some ((pd_neg ((pd_int).w)).w)))))))) (dss_one (ds_ret (pd_join ((pd_str).w) ((pd_add ((pd_lst (da_cons (pd_var 1) (da_nil))).w) ((pd_var 2).w)).w))))))
theorem k_law_commas {w : World} {K : PySem.W.Frag} {mg : Str → Option Value} {base : Heap} (F : Fx K mg) : Fk PG w K mg base (gg F) "_law_commas" d_law_commas 1 := ⟨_, _, _, (f_law_commas (w := w) (base := base) F).2.1, F.g__law_commas, (f_law_commas (w := w) (base := base) F).1, (f_law_commas (w := w) (base := base) F).2.2⟩
theorem sc_Library_getitem : FnScope ["self", "title"] ["self", "title"] (defScope (L2.inClass (top 27) 4)) := ⟨rfl, rfl, rfl, by decide +kernel, rfl, by decide +kernel, by decide +kernel⟩
theorem f_Library_getitem {w : World} {K : PySem.W.Frag} {mg : Str → Option Value} {base : Heap} (F : Fx K mg) : PySem.W.keepIn K (.ref (mAd "Library" "__getitem__" K)) = true ∧ FnOk PG w K mg base (L2.CX PG w) 3 (mAd "Library" "__getitem__" K) F.d_Library_getitem.choose ["self", "title"] (dsp (gg F) d_Library_getitem) ∧ Binds K F.d_Library_getitem.choose ["self", "title"] [] := by
  have FD := F.d_Library_getitem.choose_spec
  refine ⟨FD.kp, fn_dsp FD rfl sc_Library_getitem (Nat.le_of_ble_eq_true rfl) (k := 2) (b := b_Library_getitem) (N := ["self", "title"]) (fun cdv A outer s H E Ze => ?_), FD.bindsN fun _ _ _ _ _ _ us hl => match us, hl with | [_, _], _ => rfl⟩
  exact dss_cons (ds_if (pt_notin ((pd_var 1).w) ((pd_fld ((pd_var 0).w)).w)) (dss_one (ds_raise (x_UnknownClass (w := w) (base := base) F) (by exact Nat.le_of_ble_eq_true rfl) (by exact rfl) (da_cons (pd_var 1) (da_nil)))) (dss_nil)) (dss_one (ds_ret (pd_ix ((pd_fld ((pd_var 0).w)).w) ((pd_ix ((pd_fld ((pd_var 0).w)).w) ((pd_var 1).w)).w))))
theorem dn_Library_getitem {w : World} {K : PySem.W.Frag} {mg : Str → Option Value} {base : Heap} (F : Fx K mg) : Dn PG w K mg base (gg F) "Library" "__getitem__" d_Library_getitem 3 := ⟨_, _, _, (f_Library_getitem (w := w) (base := base) F).2.1, F.me_Library_getitem, (f_Library_getitem (w := w) (base := base) F).2.2, fnIn_of F.d_Library_getitem.choose_spec⟩
theorem sc_Library_iter : FnScope ["self"] ["self"] (defScope (L2.inClass (top 27) 2)) := ⟨rfl, rfl, rfl, by decide +kernel, rfl, by decide +kernel, by decide +kernel⟩
theorem it_Library {w : World} {K : PySem.W.Frag} {mg : Str → Option Value} {base : Heap} (F : Fx K mg) : It1 PG w K mg base (gg F) "Library" "kinds" := by
  have FD := F.d_Library_iter.choose_spec
  exact ⟨_, _, _, _, _, _, _, _, _, F.me_Library_iter, FD, sc_Library_iter, rfl, FD.bindsN fun _ _ _ _ _ _ us hl => match us, hl with | [_], _ => rfl, it_body sc_Library_iter rfl (by decide +kernel) (by decide) (by decide) (by decide +kernel) F.n_iter F.cl_Library F.na_Library_kinds⟩
theorem sc_Kind_le : FnScope ["self", "other"] ["self", "other"] (defScope (L2.inClass (top 22) 2)) := ⟨rfl, rfl, rfl, by decide +kernel, rfl, by decide +kernel, by decide +kernel⟩
theorem f_Kind_le {w : World} {K : PySem.W.Frag} {mg : Str → Option Value} {base : Heap} (F : Fx K mg) : PySem.W.keepIn K (.ref (mAd "Kind" "__le__" K)) = true ∧ FnOk PG w K mg base (L2.CX PG w) 1 (mAd "Kind" "__le__" K) F.d_Kind_le.choose ["self", "other"] (dsp (gg F) d_Kind_le) ∧ Binds K F.d_Kind_le.choose ["self", "other"] [] := by
  have FD := F.d_Kind_le.choose_spec
  refine ⟨FD.kp, fn_dsp FD rfl sc_Kind_le (Nat.le_of_ble_eq_true rfl) (k := 0) (b := b_Kind_le) (N := ["self", "other"]) (fun cdv A outer s H E Ze => ?_), FD.bindsN fun _ _ _ _ _ _ us hl => match us, hl with | [_, _], _ => rfl⟩
  exact dss_one (ds_ret (pd_or (pd_eq ((pd_fld ((pd_var 0).w)).w) ((pd_fld ((pd_var 1).w)).w)) (pd_one (pd_in ((pd_fld ((pd_var 0).w)).w) ((pd_fld ((pd_var 1).w)).w)))))
theorem dn_Kind_le {w : World} {K : PySem.W.Frag} {mg : Str → Option Value} {base : Heap} (F : Fx K mg) : Dn PG w K mg base (gg F) "Kind" "__le__" d_Kind_le 1 := ⟨_, _, _, (f_Kind_le (w := w) (base := base) F).2.1, F.me_Kind_le, (f_Kind_le (w := w) (base := base) F).2.2, fnIn_of F.d_Kind_le.choose_spec⟩
theorem sc_Library_contains : FnScope ["self", "title"] ["self", "title"] (defScope (L2.inClass (top 27) 3)) := ⟨rfl, rfl, rfl, by decide +kernel, rfl, by decide +kernel, by decide +kernel⟩
theorem f_Library_contains {w : World} {K : PySem.W.Frag} {mg : Str → Option Value} {base : Heap} (F : Fx K mg) : PySem.W.keepIn K (.ref (mAd "Library" "__contains__" K)) = true ∧ FnOk PG w K mg base (L2.CX PG w) 1 (mAd "Library" "__contains__" K) F.d_Library_contains.choose ["self", "title"] (dsp (gg F) d_Library_contains) ∧ Binds K F.d_Library_contains.choose ["self", "title"] [] := by
  have FD := F.d_Library_contains.choose_spec
  refine ⟨FD.kp, fn_dsp FD rfl sc_Library_contains (Nat.le_of_ble_eq_true rfl) (k := 0) (b := b_Library_contains) (N := ["self", "title"]) (fun cdv A outer s H E Ze => ?_), FD.bindsN fun _ _ _ _ _ _ us hl => match us, hl with | [_, _], _ => rfl⟩
  exact dss_one (ds_ret (pd_in ((pd_var 1).w) ((pd_fld ((pd_var 0).w)).w)))
theorem dn_Library_contains {w : World} {K : PySem.W.Frag} {mg : Str → Option Value} {base : Heap} (F : Fx K mg) : Dn PG w K mg base (gg F) "Library" "__contains__" d_Library_contains 1 := ⟨_, _, _, (f_Library_contains (w := w) (base := base) F).2.1, F.me_Library_contains, (f_Library_contains (w := w) (base := base) F).2.2, fnIn_of F.d_Library_contains.choose_spec⟩
theorem sc_own_way_counts : FnScope ["library", "base", "counts", "kind", "step"] ["library", "base"] (defScope (top 10)) := ⟨rfl, rfl, rfl, by decide +kernel, rfl, by decide +kernel, by decide +kernel⟩
theorem f_own_way_counts {w : World} {K : PySem.W.Frag} {mg : Str → Option Value} {base : Heap} (F : Fx K mg) : PySem.W.keepIn K (.ref (gAd "own_way_counts" K)) = true ∧ FnOk PG w K mg base (L2.CX PG w) 2 (gAd "own_way_counts" K) F.d_own_way_counts.choose ["library", "base"] (dsp (gg F) d_own_way_counts) ∧ Binds K F.d_own_way_counts.choose ["library", "base"] [] := by
  have FD := F.d_own_way_counts.choose_spec
  refine ⟨FD.kp, fn_dsp FD rfl sc_own_way_counts (Nat.le_of_ble_eq_true rfl) (k := 1) (b := b_own_way_counts) (N := ["library", "base", "counts", "kind", "step"]) (fun cdv A outer s H E Ze => ?_), FD.bindsN fun _ _ _ _ _ _ us hl => match us, hl with | [_, _], _ => rfl⟩
  exact dss_cons (ds_own (i := 2) (by exact rfl) (by exact Nat.le_of_ble_eq_true rfl) (by exact Or.inl rfl) (pf_dict0)) (dss_cons (ds_for (di_own (it_Library (w := w) (base := base) F) (by exact Nat.le_of_ble_eq_true rfl) (pd_var 0)) (dg_name (i := 3) (by exact rfl) (by exact Nat.le_of_ble_eq_true rfl) (by exact Or.inl rfl)) (dss_cons (ds_dput (i := 2) (by exact rfl) ((pd_fld ((pd_var 3).w)).w) (pd_int)) (dss_cons (ds_if (pt_eq ((pd_fld ((pd_var 3).w)).w) ((pd_var 1).w)) (dss_one (ds_dput (i := 2) (by exact rfl) ((pd_var 1).w) (pd_int))) (dss_nil)) (dss_one (ds_for (di_of (pd_fld ((pd_var 3).w))) (dg_name (i := 4) (by exact rfl) (by exact Nat.le_of_ble_eq_true rfl) (by exact Or.inl rfl)) (dss_one (ds_if (pt_not' (pt_tru ((pd_fld ((pd_var 4).w)).w))) (dss_one (ds_dputadd (i := 2) (by exact rfl) ((pd_fld ((pd_var 3).w)).w) (pd_ix (pd_look 2) ((pd_fld ((pd_var 4).w)).w)))) (dss_nil)))))))) (dss_one (ds_frz [2] (ds_ret (pd_var 2)))))
theorem k_own_way_counts {w : World} {K : PySem.W.Frag} {mg : Str → Option Value} {base : Heap} (F : Fx K mg) : Fk PG w K mg base (gg F) "own_way_counts" d_own_way_counts 2 := ⟨_, _, _, (f_own_way_counts (w := w) (base := base) F).2.1, F.g_own_way_counts, (f_own_way_counts (w := w) (base := base) F).1, (f_own_way_counts (w := w) (base := base) F).2.2⟩
theorem sc_count_copies : FnScope ["library", "title", "base", "kind", "counts", "root"] ["library", "title", "base"] (defScope (top 11)) := ⟨rfl, rfl, rfl, by decide +kernel, rfl, by decide +kernel, by decide +kernel⟩
theorem f_count_copies {w : World} {K : PySem.W.Frag} {mg : Str → Option Value} {base : Heap} (F : Fx K mg) : PySem.W.keepIn K (.ref (gAd "count_copies" K)) = true ∧ FnOk PG w K mg base (L2.CX PG w) 5 (gAd "count_copies" K) F.d_count_copies.choose ["library", "title", "base"] (dsp (gg F) d_count_copies) ∧ Binds K F.d_count_copies.choose ["library", "title", "base"] [] := by
  have FD := F.d_count_copies.choose_spec
  refine ⟨FD.kp, fn_dsp FD rfl sc_count_copies (Nat.le_of_ble_eq_true rfl) (k := 4) (b := b_count_copies) (N := ["library", "title", "base", "kind", "counts", "root"]) (fun cdv A outer s H E Ze => ?_), FD.bindsN fun _ _ _ _ _ _ us hl => match us, hl with | [_, _, _], _ => rfl⟩
  exact dss_cons (ds_set (i := 3) (by exact rfl) (by exact Nat.le_of_ble_eq_true rfl) (by exact Or.inl rfl) (pd_ixO (dn_Library_getitem (w := w) (base := base) F) (by exact Nat.le_of_ble_eq_true rfl) (pd_var 0) (pd_var 1))) (dss_cons (ds_if (pt_notinO (dn_Library_contains (w := w) (base := base) F) (by exact Nat.le_of_ble_eq_true rfl) (pd_var 2) (pd_var 0)) (dss_one (ds_raise (x_UnknownClass (w := w) (base := base) F) (by exact Nat.le_of_ble_eq_true rfl) (by exact rfl) (da_cons (pd_var 2) (da_nil)))) (dss_nil)) (dss_cons (ds_set (i := 4) (by exact rfl) (by exact Nat.le_of_ble_eq_true rfl) (by exact Or.inr rfl) (pd_call (k_own_way_counts (w := w) (base := base) F) (by exact Nat.le_of_ble_eq_true rfl) (by exact rfl) (da_cons (pd_var 0) (da_cons (pd_var 2) (da_nil))))) (dss_one (ds_ret (pd_add ((pd_ix ((pd_var 4).w) ((pd_var 1).w)).w) ((pd_sum (by exact rfl) F.n_sum ((pd_comp (own := [("root", 5)]) (is := [5]) (PDI.w (di_of (pd_fld ((pd_var 3).w)))) (blkOk_by (by show blkC ["library", "title", "base", "kind", "counts", "root"] (defScope (top 11)) _ _ = true; decide +kernel)) (by decide) (fun _ _ _ _ _ _ => dg_name (i := 5) (by exact rfl) (by exact Nat.le_of_ble_eq_true rfl) (by exact Or.inl rfl)) (fun _ _ _ _ _ _ => dts_nil) (fun _ _ _ _ _ _ => pd_ix ((pd_var 4).w) ((pd_var 5).w))).w)).w))))))
theorem k_count_copies {w : World} {K : PySem.W.Frag} {mg : Str → Option Value} {base : Heap} (F : Fx K mg) : Fk PG w K mg base (gg F) "count_copies" d_count_copies 5 := ⟨_, _, _, (f_count_copies (w := w) (base := base) F).2.1, F.g_count_copies, (f_count_copies (w := w) (base := base) F).1, (f_count_copies (w := w) (base := base) F).2.2⟩
theorem sc_listing : FnScope ["library", "title", "kind", "lines", "base", "count"] ["library", "title"] (defScope (top 12)) := ⟨rfl, rfl, rfl, by decide +kernel, rfl, by decide +kernel, by decide +kernel⟩
theorem f_listing {w : World} {K : PySem.W.Frag} {mg : Str → Option Value} {base : Heap} (F : Fx K mg) : PySem.W.keepIn K (.ref (gAd "listing" K)) = true ∧ FnOk PG w K mg base (L2.CX PG w) 6 (gAd "listing" K) F.d_listing.choose ["library", "title"] (dsp (gg F) d_listing) ∧ Binds K F.d_listing.choose ["library", "title"] [] := by
  have FD := F.d_listing.choose_spec
  refine ⟨FD.kp, fn_dsp FD rfl sc_listing (Nat.le_of_ble_eq_true rfl) (k := 5) (b := b_listing) (N := ["library", "title", "kind", "lines", "base", "count"]) (fun cdv A outer s H E Ze => ?_), FD.bindsN fun _ _ _ _ _ _ us hl => match us, hl with | [_, _], _ => rfl⟩
  exact dss_cons (ds_set (i := 2) (by exact rfl) (by exact Nat.le_of_ble_eq_true rfl) (by exact Or.inl rfl) (pd_ixO (dn_Library_getitem (w := w) (base := base) F) (by exact Nat.le_of_ble_eq_true rfl) (pd_var 0) (pd_var 1))) (dss_cons (ds_own (i := 3) (by exact rfl) (by exact Nat.le_of_ble_eq_true rfl) (by exact Or.inl rfl) (pf_lst (da_nil))) (dss_cons (ds_for (di_own (it_Library (w := w) (base := base) F) (by exact Nat.le_of_ble_eq_true rfl) (pd_var 0)) (dg_name (i := 4) (by exact rfl) (by exact Nat.le_of_ble_eq_true rfl) (by exact Or.inl rfl)) (dss_one (ds_if (pt_ltO (dn_Kind_le (w := w) (base := base) F) (by exact Nat.le_of_ble_eq_true rfl) (by exact rfl) F.nt_Kind (pd_var 4) (pd_var 2)) (dss_cons (ds_set (i := 5) (by exact rfl) (by exact Nat.le_of_ble_eq_true rfl) (by exact Or.inl rfl) (pd_call (k_count_copies (w := w) (base := base) F) (by exact Nat.le_of_ble_eq_true rfl) (by exact rfl) (da_cons (pd_var 0) (da_cons (pd_var 1) (da_cons (pd_fld ((pd_var 4).w)) (da_nil)))))) (dss_one (ds_append (i := 3) (by exact rfl) (pd_line (pd_fld ((pd_var 4).w)) (pd_var 5))))) (dss_nil)))) (dss_one (ds_frz [3] (ds_ret (pd_var 3))))))
theorem k_listing {w : World} {K : PySem.W.Frag} {mg : Str → Option Value} {base : Heap} (F : Fx K mg) : Fk PG w K mg base (gg F) "listing" d_listing 6 := ⟨_, _, _, (f_listing (w := w) (base := base) F).2.1, F.g_listing, (f_listing (w := w) (base := base) F).1, (f_listing (w := w) (base := base) F).2.2⟩
theorem sc_law : FnScope ["_law_script", "_law_draws", "_law_style", "_law_size", "_law_plan", "_law_words", "_law_library", "_law_deep", "_law_top", "_law_over", "_law_due", "_law_k", "_law_counts_here", "_law_total", "_law_turn", "_law_actual", "_law_root"] ["_law_script"] (defScope (top 38)) := ⟨rfl, rfl, rfl, by decide +kernel, rfl, by decide +kernel, by decide +kernel⟩
theorem f_law {w : World} {K : PySem.W.Frag} {mg : Str → Option Value} {base : Heap} (F : Fx K mg) : PySem.W.keepIn K (.ref (gAd "law" K)) = true ∧ FnOk PG w K mg base (L2.CX PG w) 9 (gAd "law" K) F.d_law.choose ["_law_script"] (dsp (gg F) d_law) ∧ Binds K F.d_law.choose ["_law_script"] [] := by
  have FD := F.d_law.choose_spec
  refine ⟨FD.kp, fn_dsp FD rfl sc_law (Nat.le_of_ble_eq_true rfl) (k := 8) (b := b_law) (N := ["_law_script", "_law_draws", "_law_style", "_law_size", "_law_plan", "_law_words", "_law_library", "_law_deep", "_law_top", "_law_over", "_law_due", "_law_k", "_law_counts_here", "_law_total", "_law_turn", "_law_actual", "_law_root"]) (fun cdv A outer s H E Ze => ?_), FD.bindsN fun _ _ _ _ _ _ us hl => match us, hl with | [_], _ => rfl⟩
  exact dss_cons (ds_set (i := 1) (by exact rfl) (by exact Nat.le_of_ble_eq_true rfl) (by exact Or.inr rfl) (pd_call (k_law_row (w := w) (base := base) F) (by exact Nat.le_of_ble_eq_true rfl) (by exact rfl) (da_cons (pd_call (k_law_cell (w := w) (base := base) F) (by exact Nat.le_of_ble_eq_true rfl) (by exact rfl) (da_cons (pd_var 0) (da_cons (pd_int) (da_nil)))) (da_cons (pd_int) (da_cons (pd_lst (da_cons (pd_int) (da_cons (pd_int) (da_cons (pd_int) (da_cons (pd_int) (da_nil)))))) (da_nil)))))) (dss_cons (ds_set (i := 2) (by exact rfl) (by exact Nat.le_of_ble_eq_true rfl) (by exact Or.inl rfl) (pd_ix ((pd_lst (da_cons (pd_int) (da_cons (pd_int) (da_cons (pd_int) (da_cons (pd_int) (da_nil)))))).w) ((pd_ix ((pd_var 1).w) ((pd_int).w)).w))) (dss_cons (ds_set (i := 3) (by exact rfl) (by exact Nat.le_of_ble_eq_true rfl) (by exact Or.inl rfl) (pd_add ((pd_int).w) ((pd_mod ((pd_ix ((pd_var 1).w) ((pd_int).w)).w) ((pd_ix ((pd_lst (da_cons (pd_int) (da_cons (pd_int) (da_cons (pd_int) (da_nil))))).w) ((pd_var 2).w)).w)).w))) (dss_cons (ds_if (pt_bo (pw_and' (pt_eq ((pd_var 2).w) ((pd_int).w)) (pw_and1' (pt_eq ((pd_ix ((pd_var 1).w) ((pd_int).w)).w) ((pd_int).w))))) (dss_one (ds_set (i := 3) (by exact rfl) (by exact Nat.le_of_ble_eq_true rfl) (by exact Or.inl rfl) (pd_int))) (dss_nil)) (dss_cons (ds_set (i := 4) (by exact rfl) (by exact Nat.le_of_ble_eq_true rfl) (by exact Or.inl rfl) (pd_call (k_law_dense (w := w) (base := base) F) (by exact Nat.le_of_ble_eq_true rfl) (by exact rfl) (da_cons (pd_var 0) (da_cons (pd_int) (da_cons (pd_var 3) (da_cons (pd_int) (da_cons (pd_var 2) (da_nil)))))))) (dss_cons (ds_comp (i := 5) (by exact rfl) (by exact Nat.le_of_ble_eq_true rfl) (by exact rfl) (by exact sw_true rfl rfl rfl (by decide +kernel)) (own := [("_law_k", 11)]) (is := [11]) (PDI.w (di_range (by exact rfl) F.n_range (pd_var 3))) (blkOk_by (by show blkC ["_law_script", "_law_draws", "_law_style", "_law_size", "_law_plan", "_law_words", "_law_library", "_law_deep", "_law_top", "_law_over", "_law_due", "_law_k", "_law_counts_here", "_law_total", "_law_turn", "_law_actual", "_law_root"] (defScope (top 38)) _ _ = true; decide +kernel)) (by decide) (fun _ _ _ _ _ _ => dg_name (i := 11) (by exact rfl) (by exact Nat.le_of_ble_eq_true rfl) (by exact Or.inl rfl)) (fun _ _ _ _ _ _ => dts_nil) (fun _ _ _ _ _ _ => pd_call (k_law_word (w := w) (base := base) F) (by exact Nat.le_of_ble_eq_true rfl) (by exact rfl) (da_cons (pd_ix ((pd_var 1).w) ((pd_int).w)) (da_cons (pd_var 11) (da_nil))))) (dss_cons (ds_set (i := 6) (by exact rfl) (by exact Nat.le_of_ble_eq_true rfl) (by exact Or.inl rfl) (pd_make (c_Library_init (w := w) (base := base) F) (by exact Nat.le_of_ble_eq_true rfl) (by exact rfl) (da_cons (pd_call (k_law_draftsD (w := w) (base := base) F) (by exact Nat.le_of_ble_eq_true rfl) (by exact rfl) (da_cons (pd_var 4) (da_cons (pd_var 5) (da_cons (pd_lst (da_nil)) (da_nil))))) (da_nil)))) (dss_cons (ds_set (i := 7) (by exact rfl) (by exact Nat.le_of_ble_eq_true rfl) (by exact Or.inl rfl) (pd_call (k_law_shared (w := w) (base := base) F) (by exact Nat.le_of_ble_eq_true rfl) (by exact rfl) (da_cons (pd_var 4) (da_nil)))) (dss_cons (ds_set (i := 8) (by exact rfl) (by exact Nat.le_of_ble_eq_true rfl) (by exact Or.inl rfl) (pd_sub ((pd_var 3).w) ((pd_int).w))) (dss_cons (ds_if (pt_gt ((pd_ix ((pd_var 1).w) ((pd_int).w)).w) ((pd_int).w)) (dss_one (ds_set (i := 8) (by exact rfl) (by exact Nat.le_of_ble_eq_true rfl) (by exact Or.inl rfl) (pd_mod ((pd_add ((pd_mul ((pd_ix ((pd_var 1).w) ((pd_int).w)).w) ((pd_int).w)).w) ((pd_ix ((pd_var 1).w) ((pd_int).w)).w)).w) ((pd_var 3).w)))) (dss_nil)) (dss_cons (ds_set (i := 9) (by exact rfl) (by exact Nat.le_of_ble_eq_true rfl) (by exact Or.inl rfl) (pd_call (k_law_above (w := w) (base := base) F) (by exact Nat.le_of_ble_eq_true rfl) (by exact rfl) (da_cons (pd_var 4) (da_cons (pd_var 8) (da_nil))))) (dss_cons (ds_own (i := 10) (by exact rfl) (by exact Nat.le_of_ble_eq_true rfl) (by exact Or.inl rfl) (pf_lst (da_nil))) (dss_cons (ds_for (di_range (by exact rfl) F.n_range (pd_var 3)) (dg_name (i := 11) (by exact rfl) (by exact Nat.le_of_ble_eq_true rfl) (by exact Or.inl rfl)) (dss_one (ds_if (pt_in ((pd_var 11).w) ((pd_var 9).w)) (dss_cons (ds_set (i := 12) (by exact rfl) (by exact Nat.le_of_ble_eq_true rfl) (by exact Or.inr rfl) (pd_call (k_law_counts (w := w) (base := base) F) (by exact Nat.le_of_ble_eq_true rfl) (by exact rfl) (da_cons (pd_var 4) (da_cons (pd_var 11) (da_nil))))) (dss_cons (ds_set (i := 13) (by exact rfl) (by exact Nat.le_of_ble_eq_true rfl) (by exact Or.inl rfl) (pd_add ((pd_ix ((pd_var 12).w) ((pd_var 8).w)).w) ((pd_sum (by exact rfl) F.n_sum ((pd_comp (own := [("_law_root", 16)]) (is := [16]) (PDI.w (di_of (pd_ix ((pd_var 7).w) ((pd_var 8).w)))) (blkOk_by (by show blkC ["_law_script", "_law_draws", "_law_style", "_law_size", "_law_plan", "_law_words", "_law_library", "_law_deep", "_law_top", "_law_over", "_law_due", "_law_k", "_law_counts_here", "_law_total", "_law_turn", "_law_actual", "_law_root"] (defScope (top 38)) _ _ = true; decide +kernel)) (by decide) (fun _ _ _ _ _ _ => dg_name (i := 16) (by exact rfl) (by exact Nat.le_of_ble_eq_true rfl) (by exact Or.inl rfl)) (fun _ _ _ _ _ _ => dts_nil) (fun _ _ _ _ _ _ => pd_ix ((pd_var 12).w) ((pd_var 16).w))).w)).w))) (dss_one (ds_append (i := 10) (by exact rfl) (pd_add ((pd_ljust ((pd_ix ((pd_var 5).w) ((pd_var 11).w)).w) ((pd_int).w)).w) ((pd_rjust ((pd_call (k_law_commas (w := w) (base := base) F) (by exact Nat.le_of_ble_eq_true rfl) (by exact rfl) (da_cons (pd_var 13) (da_nil))).w) ((pd_int).w)).w)))))) (dss_nil)))) (dss_cons (ds_for (di_range (by exact rfl) F.n_range (pd_int)) (dg_name (i := 14) (by exact rfl) (by exact Nat.le_of_ble_eq_true rfl) (by exact Or.inl rfl)) (dss_cons (ds_ownX [false, false, false, false, false, true, true, false, true] (i := 15) (by exact rfl) (by exact Nat.le_of_ble_eq_true rfl) (by exact Or.inl rfl) (fun _ => pd_call (k_listing (w := w) (base := base) F) (by exact Nat.le_of_ble_eq_true rfl) (by exact rfl) (da_cons (pd_var 6) (da_cons (pd_ix ((pd_var 5).w) ((pd_var 8).w)) (da_nil))))) (dss_cons (ds_if (pt_bo (pw_or' (pt_not' (pt_tru ((pd_isi "list" (by exact rfl) F.n_isinstance (pd_look 15) (by exact rfl) F.n_list (by decide +kernel)).w))) (pw_or1' (pt_ne (pd_look 15) (pd_look 10))))) (dss_one (ds_ret (pd_bl))) (dss_nil)) (dss_one (ds_clearE (i := 15) (by exact rfl)))))) (dss_one (ds_ret (pd_bl))))))))))))))))
end Tw

set_option maxHeartbeats 0
namespace Tw
open PySem PySem.Spec PyProof.Rows L2
theorem fx_of {K : PySem.W.Frag} {hp : Heap} {mg : Str → Option Value} (X : K.In hp) (G : hp.Ns mainGlobals mg) (c0 : SaysX fb fa fn fx K) (c : SaysT fb fa fn K := c0.base) : Fx K mg where
  n_abs := He.free_ok X G (c.fact 0)
  n_int := He.free_ok X G (c.fact 1)
  n_isinstance := He.free_ok X G (c.fact 2)
  n_iter := He.free_ok X G (c.fact 3)
  n_len := He.free_ok X G (c.fact 4)
  n_list := He.free_ok X G (c.fact 5)
  n_range := He.free_ok X G (c.fact 6)
  n_str := He.free_ok X G (c.fact 7)
  n_sum := He.free_ok X G (c.fact 8)
  n_super := He.free_ok X G (c.fact 9)
  n_tuple := He.free_ok X G (c.fact 10)
  c_DIGITS := He.str_ok X G (c.fact 11)
  c_LETTERS := He.str_ok X G (c.fact 12)
  c_LONGEST := He.int_ok X G (c.fact 13)
  g_Base := He.glo_ok X G (c.fact 14)
  g_Declaring := He.glo_ok X G (c.fact 15)
  g_Draft := He.glo_ok X G (c.fact 16)
  g_DuplicateBase := He.glo_ok X G (c.fact 17)
  g_DuplicateClass := He.glo_ok X G (c.fact 18)
  g_DuplicateName := He.glo_ok X G (c.fact 19)
  g_InvalidWord := He.glo_ok X G (c.fact 20)
  g_Kind := He.glo_ok X G (c.fact 21)
  g_Library := He.glo_ok X G (c.fact 22)
  g_Titled := He.glo_ok X G (c.fact 23)
  g_UnknownClass := He.glo_ok X G (c.fact 24)
  g__law_above := He.glo_ok X G (c.fact 25)
  g__law_cell := He.glo_ok X G (c.fact 26)
  g__law_commas := He.glo_ok X G (c.fact 27)
  g__law_counts := He.glo_ok X G (c.fact 28)
  g__law_dense := He.glo_ok X G (c.fact 29)
  g__law_drafts := He.glo_ok X G (c.fact 30)
  g__law_row := He.glo_ok X G (c.fact 31)
  g__law_shared := He.glo_ok X G (c.fact 32)
  g__law_word := He.glo_ok X G (c.fact 33)
  g_count_copies := He.glo_ok X G (c.fact 34)
  g_law := He.glo_ok X G (c.fact 35)
  g_listing := He.glo_ok X G (c.fact 36)
  g_own_way_counts := He.glo_ok X G (c.fact 37)
  cl_Base := He.cls_ok (c.fact 38)
  na_Base_title := He.noat_ok (c.fact 39)
  na_Base_is_shared := He.noat_ok (c.fact 40)
  cl_Draft := He.cls_ok (c.fact 41)
  na_Draft_title := He.noat_ok (c.fact 42)
  na_Draft_names := He.noat_ok (c.fact 43)
  na_Draft_statics := He.noat_ok (c.fact 44)
  na_Draft_bases := He.noat_ok (c.fact 45)
  cl_Kind := He.cls_ok (c.fact 46)
  na_Kind_title := He.noat_ok (c.fact 47)
  na_Kind_names := He.noat_ok (c.fact 48)
  na_Kind_statics := He.noat_ok (c.fact 49)
  na_Kind_bases := He.noat_ok (c.fact 50)
  na_Kind_above := He.noat_ok (c.fact 51)
  na_Kind_shared_bases := He.noat_ok (c.fact 52)
  cl_Library := He.cls_ok (c.fact 53)
  na_Library_kinds := He.noat_ok (c.fact 54)
  na_Library_places := He.noat_ok (c.fact 55)
  na_Library_names := He.noat_ok (c.fact 56)
  mk_Base := He.mkr_ok (c.fact 57)
  mk_Draft := He.mkr_ok (c.fact 58)
  mk_Kind := He.mkr_ok (c.fact 59)
  mk_Library := He.mkr_ok (c.fact 60)
  sm_Titled_is_word := smB_ok (c.own 0)
  pm_Declaring_init := pmB_ok (c.own 1)
  pm_Titled_init := pmB_ok (c.own 2)
  me_Kind_le := He.meth_ok (c.fact 61)
  me_Library_contains := He.meth_ok (c.fact 62)
  me_Library_getitem := He.meth_ok (c.fact 63)
  me_Library_iter := He.meth_ok (c.fact 64)
  me_Library_admit := He.meth_ok (c.fact 65)
  nt_Kind := c.own 3
  d_law_row := c.def_ 0
  d_law_cell := c.def_ 1
  d_law_dense := c.def_ 2
  d_law_word := c.def_ 3
  d_Titled_is_word := c.def_ 4
  d_Titled_init := c.def_ 5
  d_Declaring_init := c.def_ 6
  d_Kind_init := c.def_ 7
  d_Library_admit := c.def_ 8
  d_Library_init := c.def_ 9
  d_Base_init := c.def_ 10
  d_Draft_init := c.def_ 11
  d_law_draftsD := c.def_ 12
  d_law_shared := c.def_ 13
  d_law_above := c.def_ 14
  d_law_counts := c.def_ 15
  d_law_commas := c.def_ 16
  d_Library_getitem := c.def_ 17
  d_Library_iter := c.def_ 18
  d_Kind_le := c.def_ 19
  d_Library_contains := c.def_ 20
  d_own_way_counts := c.def_ 21
  d_count_copies := c.def_ 22
  d_listing := c.def_ 23
  d_law := c.def_ 24
  xc_DuplicateBase := xcB_ok (c.own 4) (c0.init 0)
  ox_DuplicateBase := oexB_ok (c.own 5)
  xn_DuplicateBase_title := of_decide_eq_true (c.own 6)
  xc_DuplicateClass := xcB_ok (c.own 7) (c0.init 1)
  ox_DuplicateClass := oexB_ok (c.own 8)
  xn_DuplicateClass_title := of_decide_eq_true (c.own 9)
  xc_DuplicateName := xcB_ok (c.own 10) (c0.init 2)
  ox_DuplicateName := oexB_ok (c.own 11)
  xn_DuplicateName_name := of_decide_eq_true (c.own 12)
  xc_InvalidWord := xcB_ok (c.own 13) (c0.init 3)
  ox_InvalidWord := oexB_ok (c.own 14)
  xn_InvalidWord_word := of_decide_eq_true (c.own 15)
  xc_UnknownClass := xcB_ok (c.own 16) (c0.init 4)
  ox_UnknownClass := oexB_ok (c.own 17)
  xn_UnknownClass_title := of_decide_eq_true (c.own 18)
theorem law_sp {K : PySem.W.Frag} {mg : Str → Option Value} (F : Fx K mg) (ok : ∀ ns : List Int, ns.length ≤ 63 → d_law [.scr ns] = .ok (.bl true)) (H : Hp) (a : Addr) (ns : List Int) (hl : ns.length ≤ 63) (hS : SqL K H a (ns.map V.int)) : dsp (gg F) d_law [.ref a] H (fun v _ => v = .bl true) fun _ _ _ => False := by
  refine ⟨fun _ => False, [.scr ns], fun a z => z.elim, RepL.one ⟨a, rfl, hS.imp (fun r => ⟨fun z => z, r⟩) id⟩, ?_⟩
  rw [ok ns hl]
  exact fun v H' _ r => r
end Tw

namespace Tw
open PySem
section
variable {ρ : DEnv} {a b : DE} {as ks : DA} {c : String} {f : List D → R D} {i : Nat} {x y : D} {o : Option Slot}
def rmS (c : String) (f : List D → R D) (x y : D) : R D := match y with
  | .obj c' ks vs => if c' = c then (f [.obj c' ks vs, x]).bind fun r => match r with | .bl b => .ok (.bl b) | _ => .no else .no
  | _ => .no
def rmnS (c : String) (f : List D → R D) (x y : D) : R D := match y with
  | .obj c' ks vs => if c' = c then (f [.obj c' ks vs, x]).bind fun r => match r with | .bl b => .ok (.bl (!b)) | _ => .no else .no
  | _ => .no
theorem q_rm : eRM c f a b ρ = (a ρ).bind fun x => (b ρ).bind fun y => rmS c f x y := rfl
theorem q_rmn : eRMn c f a b ρ = (a ρ).bind fun x => (b ρ).bind fun y => rmnS c f x y := rfl
def blS (r : D) : R D := match r with | .bl b => .ok (.bl b) | _ => .no
def nblS (r : D) : R D := match r with | .bl b => .ok (.bl (!b)) | _ => .no
theorem bl_b {k : Bool} : blS (.bl k) = .ok (.bl k) := rfl
theorem nbl_b {k : Bool} : nblS (.bl k) = .ok (.bl (!k)) := rfl
theorem rm_o {ks : List Str} {vs : List D} : rmS c f x (.obj c ks vs) = (f [.obj c ks vs, x]).bind blS := if_pos rfl
theorem rmn_o {ks : List Str} {vs : List D} : rmnS c f x (.obj c ks vs) = (f [.obj c ks vs, x]).bind nblS := if_pos rfl
def opS (c : String) (cs : List String) (f : List D → R D) (x y : D) : R D := match x, y with
  | .obj c1 ks vs, .obj c2 ks2 vs2 => if c1 = c ∧ c2 ∈ cs then f [.obj c1 ks vs, .obj c2 ks2 vs2] else .no
  | _, _ => .no
theorem q_op {cs : List String} : eOp c cs f a b ρ = (a ρ).bind fun x => (b ρ).bind fun y => opS c cs f x y := rfl
theorem op_o {c2 : String} {ks ks2 : List Str} {vs vs2 : List D} : opS c [c2] f (.obj c ks vs) (.obj c2 ks2 vs2) = f [.obj c ks vs, .obj c2 ks2 vs2] := if_pos ⟨rfl, List.mem_cons_self⟩
def ixoS (c : String) (f : List D → R D) (x y : D) : R D := match x with
  | .obj c' ks vs => if c' = c then f [.obj c' ks vs, y] else .no
  | _ => .no
theorem q_ixo : eIxO c f a b ρ = (a ρ).bind fun x => (b ρ).bind fun y => ixoS c f x y := rfl
theorem ixo_o {ks : List Str} {vs : List D} : ixoS c f (.obj c ks vs) y = f [.obj c ks vs, y] := if_pos rfl
theorem q_iown {fl : Str} : iOwn c fl a ρ = (a ρ).bind fun x => R.of (itO c fl x) := rfl
theorem ito_o {fl : Str} {ks : List Str} {vs : List D} : itO c fl (.obj c ks vs) = match lookD ks vs fl with | some (.lst l) => some l | _ => none := if_pos rfl
def mkS (n m : Nat) (cn : String) (gD : List D → List D → List D) (init : D → List D → R (D × D)) (xs ys : List D) : R D := if xs.length = n ∧ ys.length = m then mkD cn init (gD xs ys) else .no
theorem q_mkk {n m : Nat} {cn : String} {gD : List D → List D → List D} {init : D → List D → R (D × D)} : eMkK n m cn gD init as ks ρ = (as ρ).bind fun xs => (ks ρ).bind fun ys => mkS n m cn gD init xs ys := rfl
theorem mk_3 {cn : String} {gD : List D → List D → List D} {init : D → List D → R (D × D)} {p q r s : D} : mkS 1 3 cn gD init [p] [q, r, s] = mkD cn init (gD [p] [q, r, s]) := if_pos ⟨rfl, rfl⟩
theorem mk_2 {cn : String} {gD : List D → List D → List D} {init : D → List D → R (D × D)} {p q r : D} : mkS 1 2 cn gD init [p] [q, r] = mkD cn init (gD [p] [q, r]) := if_pos ⟨rfl, rfl⟩
theorem mk_1 {cn : String} {gD : List D → List D → List D} {init : D → List D → R (D × D)} {p q : D} : mkS 1 1 cn gD init [p] [q] = mkD cn init (gD [p] [q]) := if_pos ⟨rfl, rfl⟩
theorem g_3 {p q r s : D} : gDr3 [p] [q, r, s] = [p, q, r, s] := rfl
theorem g_2 {p q r : D} : gDr2 [p] [q, r] = [p, q, r, .tup []] := rfl
theorem g_1 {p q : D} : gDr1 [p] [q] = [p, q, .tup [], .tup []] := rfl
theorem q_clm : eClm c f as ρ = (as ρ).bind fun xs => f (.cls c :: xs) := rfl
def clsS (c : String) (init : D → List D → R (D × D)) (as : DA) (ρ : DEnv) (o : Option Slot) : R D := match o with
  | some (.val (.cls c')) => if c' = c then (as ρ).bind (mkD c init) else .no
  | _ => .no
theorem q_cls {init : D → List D → R (D × D)} : eCls c init i as ρ = clsS c init as ρ (getO i ρ) := by
  unfold eCls clsS getO
  cases h : ρ[i]? with
  | none => rfl
  | some o => cases o with
    | none => rfl
    | some o => cases o with
      | val d => cases d <;> rfl
      | _ => rfl
theorem cls_o {init : D → List D → R (D × D)} : clsS c init as ρ (some (.val (.cls c))) = (as ρ).bind (mkD c init) := if_pos rfl
def mkE (p : D × D) : R D := match p.1 with
  | .non => .ok p.2
  | _ => .no
theorem q_mkd {init : D → List D → R (D × D)} {ds : List D} : mkD c init ds = (init (.obj c [] []) ds).bind mkE := by
  unfold mkD mkE
  cases init (.obj c [] []) ds with
  | ok p => cases p with | mk a b => cases a <;> rfl
  | ex e => rfl
  | no => rfl
theorem mke_n : mkE (.non, x) = .ok x := rfl
def iniS (i : Nat) (f : D → List D → R (D × D)) (as : DA) (ρ : DEnv) (o : Option Slot) : R Out := match o with
  | some (.slf (.obj c ks l)) => (as ρ).st ρ fun xs => if noGst l then (match f (.obj c ks l) xs with
    | .ok p => .ok (.nx (ρ.set i (some (.slf p.2))))
    | .ex e => .ok (.xx e (ρ.map fun _ => none))
    | .no => .no) else .no
  | _ => .no
theorem q_ini {h : D → List D → R (D × D)} : sInitC i h as ρ = iniS i h as ρ (getO i ρ) := by
  unfold sInitC iniS getO
  cases e : ρ[i]? with
  | none => rfl
  | some o => cases o with
    | none => rfl
    | some o => cases o with
      | slf d => cases d <;> rfl
      | _ => rfl
def iniE (i : Nat) (ρ : DEnv) (r : R (D × D)) : R Out := match r with
  | .ok p => .ok (.nx (ρ.set i (some (.slf p.2))))
  | .ex e => .ok (.xx e (ρ.map fun _ => none))
  | .no => .no
theorem ini_o {h : D → List D → R (D × D)} {ks : List Str} {l : List D} (hn : noGst l = true) : iniS i h as ρ (some (.slf (.obj c ks l))) = (as ρ).st ρ fun xs => iniE i ρ (h (.obj c ks l) xs) := by
  unfold iniS iniE
  simp only [hn, if_true]
theorem inie_ok {p : D × D} : iniE i ρ (.ok p) = .ok (.nx (ρ.set i (some (.slf p.2)))) := rfl
theorem inie_ex {e : Ex} : iniE i ρ (.ex e) = .ok (.xx e (ρ.map fun _ => none)) := rfl
theorem ng_n : noGst [] = true := id rfl
theorem ng_s {s : Str} {l : List D} : noGst (.str s :: l) = noGst l := id rfl
theorem ng_t {m l : List D} : noGst (.tup m :: l) = noGst l := id rfl
theorem ng_b {k : Bool} {l : List D} : noGst (.bl k :: l) = noGst l := id rfl
def ngs := And.intro @ng_n <| And.intro @ng_s <| And.intro @ng_t @ng_b
end
def ev := And.intro @q_seq <| And.intro @sq_nx <| And.intro @sq_rt <| And.intro @sq_bk <| And.intro @sq_ct <| And.intro @sq_xx <| And.intro @q_next <| And.intro @q_brk <| And.intro @q_cnt <| And.intro @ite_t <| And.intro @ite_f <| And.intro @q_if <| And.intro @v_z <| And.intro @v_s <| And.intro @k_zv <| And.intro @k_zo <| And.intro @k_s <| And.intro @st_zn <| And.intro @st_zv <| And.intro @st_zo <| And.intro @so_zn <| And.intro @so_zv <| And.intro @so_zo <| And.intro @cr_ok <| And.intro @st_s <| And.intro @so_s <| And.intro @fz_zo <| And.intro @fz_zv <| And.intro @fz_zn <| And.intro @fz_s <| And.intro @cl_zo <| And.intro @cl_zv <| And.intro @cl_zn <| And.intro @cl_s <| And.intro @cd_n <| And.intro @cd_c <| And.intro @fl_n <| And.intro @fl_c <| And.intro @q_frz <| And.intro @q_clr <| And.intro @wp_n <| And.intro @wp_c <| And.intro @ow_n <| And.intro @ow_c <| And.intro @o1_zn <| And.intro @o1_zv <| And.intro @o1_s <| And.intro @t_z <| And.intro @t_s <| And.intro @q_c <| And.intro @q_e1 <| And.intro @q_e2 <| And.intro @q_an <| And.intro @q_ac <| And.intro @q_call <| And.intro @q_meth <| And.intro @m_obj <| And.intro @m_obj2 <| And.intro @m_obj3 <| And.intro @q_tup <| And.intro @q_lst <| And.intro @sS0 <| And.intro @sS1 <| And.intro @sS2 <| And.intro @sS3 <| And.intro @sS4 <| And.intro @sS5 <| And.intro @sS6 <| And.intro @sS7 <| And.intro @sS8 <| And.intro @q_ife <| And.intro @ie_t <| And.intro @ie_f <| And.intro @q_and <| And.intro @q_or <| And.intro @q_not <| And.intro @ae_t <| And.intro @ae_f <| And.intro @oe_t <| And.intro @oe_f <| And.intro @ne_k <| And.intro @q_xn <| And.intro @q_xs <| And.intro @xi_i <| And.intro @q_sl <| And.intro @q_tv <| And.intro @tv_b <| And.intro @q_tt <| And.intro @q_ta <| And.intro @q_to <| And.intro @q_tn <| And.intro @at_t <| And.intro @at_f <| And.intro @ot_t <| And.intro @ot_f <| And.intro @q_ty <| And.intro @q_set <| And.intro @q_own <| And.intro @q_asg <| And.intro @q_drop <| And.intro @q_ret <| And.intro @q_retn <| And.intro @go_z <| And.intro @go_s <| And.intro @q_app <| And.intro @ap_l <| And.intro @lt_ok <| And.intro @q_clear <| And.intro @cs_l <| And.intro @q_aug <| And.intro @au_v <| And.intro @q_fld <| And.intro @fs_s <| And.intro @q_for <| And.intro @lp_nx <| And.intro @lp_ct <| And.intro @lp_bk <| And.intro @lp_rt <| And.intro @lp_xx <| And.intro @f_n <| And.intro @g_v <| And.intro @g_t <| And.intro @g_vn <| And.intro @g_vc <| And.intro @q_io <| And.intro @q_ir <| And.intro @rg_n <| And.intro @q_comp <| And.intro @fd_rt <| And.intro @fd_nx <| And.intro @fd_xx <| And.intro @fi_nx <| And.intro @fi_rt <| And.intro @fi_xx <| And.intro @p_add <| And.intro @p_sub <| And.intro @p_adds <| And.intro @p_addl <| And.intro @p_addt <| And.intro @p_mod <| And.intro @p_fdiv <| And.intro @p_lt <| And.intro @p_le <| And.intro @p_gt <| And.intro @p_ge <| And.intro @p_eqi <| And.intro @p_nei <| And.intro @p_eqs <| And.intro @p_nes <| And.intro @p_eqb <| And.intro @p_neb <| And.intro @p_int <| And.intro @p_intb <| And.intro @p_neg <| And.intro @p_lenl <| And.intro @p_lent <| And.intro @p_lenc <| And.intro @p_lens <| And.intro @p_listl <| And.intro @p_listt <| And.intro @p_tupl <| And.intro @p_tupt <| And.intro @p_max <| And.intro @p_isn <| And.intro @p_isnn <| And.intro @p_ixl <| And.intro @p_ixt <| And.intro @p_ixc <| And.intro @p_ixd <| And.intro @p_fld <| And.intro @p_at0 <| And.intro @p_at1 <| And.intro @p_atn <| And.intro @p_trub <| And.intro @p_trul <| And.intro @p_trut <| And.intro @p_trun <| And.intro @p_itl <| And.intro @p_itt <| And.intro @p_isib <| And.intro @p_isit <| And.intro @p_isil <| And.intro @p_isis <| And.intro @p_isii <| And.intro @p_isibi <| And.intro @b_tt <| And.intro @b_ff <| And.intro @b_tf <| And.intro @b_ft <| And.intro @nt_t <| And.intro @nt_f <| And.intro @q_rm <| And.intro @q_rmn <| And.intro @bl_b <| And.intro @nbl_b <| And.intro @rm_o <| And.intro @rmn_o <| And.intro @q_op <| And.intro @op_o <| And.intro @q_ixo <| And.intro @ixo_o <| And.intro @q_iown <| And.intro @ito_o <| And.intro @q_mkk <| And.intro @mk_3 <| And.intro @mk_2 <| And.intro @mk_1 <| And.intro @g_3 <| And.intro @g_2 <| And.intro @g_1 <| And.intro @q_clm <| And.intro @q_cls <| And.intro @cls_o <| And.intro @mke_n <| And.intro @q_ini <| And.intro @ini_o <| And.intro @inie_ok <| And.intro @inie_ex <| And.intro @ng_n <| And.intro @ng_s <| And.intro @ng_t @ng_b
end Tw

namespace Tw
open PySem
section
variable {ρ ρ' : DEnv} {a b k : DE} {b0 s t : DS} {es : List String} {hs : List Hd} {e : Ex} {d v : D} {i n : Nat} {f : Str} {c : String} {o : Option Slot} {l : List D}
def tryS (es : List String) (hs : List Hd) (r : R Out) : R Out := match r with
  | .ok (.xx e ρ') => if e.cls ∈ es then tryH hs e ρ' else .no
  | r => r
theorem q_try : sTry es b0 hs ρ = tryS es hs (b0 ρ) := by
  unfold sTry tryS
  cases b0 ρ with
  | ok o => cases o <;> rfl
  | ex e => rfl
  | no => rfl
theorem ty_nx : tryS es hs (.ok (.nx ρ)) = .ok (.nx ρ) := rfl
theorem ty_rt : tryS es hs (.ok (.rt d ρ)) = .ok (.rt d ρ) := rfl
theorem th_n : tryH [] e ρ = .ok (.xx e ρ) := rfl
def clS (i : Nat) (s : Ex → DS) (e : Ex) (ρ : DEnv) (o : Option Slot) : R Out := match o with
  | none => outX i (s e ρ)
  | _ => .no
def thS (k : Bool) (i : Nat) (s : Ex → DS) (hs : List Hd) (e : Ex) (ρ : DEnv) : R Out := if k then clS i s e ρ (getO i ρ) else tryH hs e ρ
theorem ths_t {s : Ex → DS} : thS true i s hs e ρ = clS i s e ρ (getO i ρ) := rfl
theorem ths_f {s : Ex → DS} : thS false i s hs e ρ = tryH hs e ρ := rfl
theorem cl_none {s : Ex → DS} : clS i s e ρ none = outX i (s e ρ) := rfl
theorem ox_rt : outX i (.ok (.rt d ρ)) = .ok (.rt d ρ) := rfl
theorem q_xf {cn : String} {ks : List Str} {vs : List D} : eXf ⟨cn, ks, vs⟩ f ρ = R.of (lookD ks vs f) := rfl
theorem q_xi {cn : String} {ks : List Str} {vs : List D} : eXi ⟨cn, ks, vs⟩ c ρ = .ok (.bl (exSub cn c)) := rfl
def putlS (i : Nat) (v : D) (k : DE) (ρ : DEnv) (o : Option Slot) : R Out := match o with
  | some (.own (.lst l)) => (k ρ).st ρ fun x => match x with
    | .int j => if 0 ≤ j ∧ j < l.length then .ok (.nx (ρ.set i (some (.own (.lst (l.set j.toNat v)))))) else .no
    | _ => .no
  | _ => .no
theorem q_putl : sPutL i k a ρ = (a ρ).st ρ fun v => putlS i v k ρ (getO i ρ) := by
  unfold sPutL putlS getO
  congr 1
  funext v
  cases h : ρ[i]? with
  | none => rfl
  | some o => cases o with
    | none => rfl
    | some o => cases o <;> first | rfl | (rename_i d; cases d <;> rfl)
def pljS (i : Nat) (v : D) (l : List D) (ρ : DEnv) (x : D) : R Out := match x with
  | .int j => if 0 ≤ j ∧ j < l.length then .ok (.nx (ρ.set i (some (.own (.lst (l.set j.toNat v)))))) else .no
  | _ => .no
theorem pl_l : putlS i v k ρ (some (.own (.lst l))) = (k ρ).st ρ fun x => pljS i v l ρ x := rfl
def joinS (b : DE) (ρ : DEnv) (x : D) : R D := match x with
  | .str z => (b ρ).bind fun y => R.of (oJoin z y)
  | _ => .no
theorem q_join : eJoin a b ρ = (a ρ).bind (joinS b ρ) := by
  unfold eJoin joinS
  cases a ρ with
  | ok x => cases x <;> rfl
  | ex e => rfl
  | no => rfl
theorem jn_s {z : Str} : joinS b ρ (.str z) = (b ρ).bind fun y => R.of (oJoin z y) := rfl
def ev2 := And.intro @q_try <| And.intro @ty_nx <| And.intro @ty_rt <| And.intro @th_n <| And.intro @ths_t <| And.intro @ths_f <| And.intro @cl_none <| And.intro @ox_rt <| And.intro @q_xf <| And.intro @q_xi <| And.intro @q_putl <| And.intro @pl_l <| And.intro @q_join @jn_s
end
end Tw

namespace Tw
open PySem
section
variable {ρ ρ' : DEnv} {a b k e : DE} {b0 s t : DS} {d v : D} {i j n : Nat} {o : Option Slot} {l : List D} {m : List Bool} {c : DT} {cl : List Nat}
theorem km_t : keepM (true :: m) (o :: ρ) = keep1 o :: keepM m ρ := rfl
theorem km_f : keepM (false :: m) (o :: ρ) = none :: keepM m ρ := rfl
theorem km_n : keepM [] (o :: ρ) = none :: keepM [] ρ := rfl
theorem km_0 : keepM m [] = [] := by cases m with | nil => rfl | cons b m => cases b <;> rfl
theorem k1_v : keep1 (some (.val d)) = some (.val d) := rfl
theorem k1_o : keep1 (some (.own d)) = some (.own d) := rfl
theorem k1_n : keep1 none = none := rfl
theorem se_n : subE [] = [] := rfl
theorem se_v : subE (some (.val d) :: ρ) = subD d ++ subE ρ := rfl
theorem se_o : subE (some (.own d) :: ρ) = subDs [d] ++ subE ρ := rfl
theorem se_0 : subE (none :: ρ) = subE ρ := rfl
/-- the def's own where the test holds -/
def ownXS (i : Nat) (k : List (List D)) (ρ : DEnv) (d : D) : R Out := match d with
  | .lst l => if (subDs l ++ k).all (neL l) then (setO i (.lst l) ρ).bind fun ρ' => .ok (.nx ρ') else (setV i (.lst l) ρ).bind fun ρ' => .ok (.nx ρ')
  | d => (setV i d ρ).bind fun ρ' => .ok (.nx ρ')
theorem q_ownX : sOwnX i m e ρ = (e (keepM m ρ)).st ρ (ownXS i (subE (keepM m ρ)) ρ) := rfl
theorem ox_l {k : List (List D)} (h : (subDs l).all (neL l) = true) (h2 : k.all (neL l) = true) : ownXS i k ρ (.lst l) = (setO i (.lst l) ρ).bind fun ρ' => .ok (.nx ρ') := by
  show (if (subDs l ++ k).all (neL l) then _ else _) = _
  rw [List.all_append, h, h2]
  rfl
theorem ox_n {k : List (List D)} : ownXS i k ρ .non = (setV i .non ρ).bind fun ρ' => .ok (.nx ρ') := rfl
theorem ox_t {k : List (List D)} : ownXS i k ρ (.tup l) = (setV i (.tup l) ρ).bind fun ρ' => .ok (.nx ρ') := rfl
def clrE (i : Nat) (ρ : DEnv) (o : Option Slot) : R Out := match o with
  | some (.own (.lst _)) => .ok (.nx (ρ.set i (some (.own (.lst [])))))
  | some (.val (.lst [])) => .ok (.nx ρ)
  | _ => .no
theorem q_clrE : sClearE i ρ = clrE i ρ (getO i ρ) := by
  unfold sClearE clrE getO
  cases h : ρ[i]? with
  | none => rfl
  | some o => cases o with
    | none => rfl
    | some o => cases o <;> first | rfl | (rename_i d; cases d <;> first | rfl | (rename_i l; cases l <;> rfl))
theorem ce_o : clrE i ρ (some (.own (.lst l))) = .ok (.nx (ρ.set i (some (.own (.lst []))))) := rfl
theorem ce_v : clrE i ρ (some (.val (.lst []))) = .ok (.nx ρ) := rfl
/-- y = x.pop() -/
def popS (i j : Nat) (ρ : DEnv) (o : Option Slot) : R Out := match o with
  | some (.own (.lst l)) => match l.getLast? with
    | some x => (setV i x (ρ.set j (some (.own (.lst l.dropLast))))).bind fun ρ' => .ok (.nx ρ')
    | none => .no
  | _ => .no
theorem q_pop : sPop i j ρ = popS i j ρ (getO j ρ) := by
  unfold sPop popS getO
  cases h : ρ[j]? with
  | none => rfl
  | some o => cases o with
    | none => rfl
    | some o => cases o <;> first | rfl | (rename_i d; cases d <;> rfl)
theorem pop_o {x : D} : popS i j ρ (some (.own (.lst (l ++ [x])))) = (setV i x (ρ.set j (some (.own (.lst l))))).bind fun ρ' => .ok (.nx ρ') := by
  unfold popS
  simp only [List.getLast?_append, List.getLast?_singleton, Option.some_or, List.dropLast_concat]
/-- the turn of a while -/
def whS (c : DT) (cl : List Nat) (b : DS) (n : Nat) (r : R Out) : R Out := match r with
  | .ok (.nx ρ') => whileL c cl b n (clrD cl ρ')
  | .ok (.ct ρ') => whileL c cl b n (clrD cl ρ')
  | .ok (.bk ρ') => .ok (.nx ρ')
  | r => r
def whK (c : DT) (cl : List Nat) (b : DS) (n : Nat) (ρ : DEnv) (k : Bool) : R Out := if k then whS c cl b n (b ρ) else .ok (.nx ρ)
theorem q_while : sWhile n c cl s ρ = whileL c cl s n (clrD cl ρ) := rfl
theorem wk_f : whK c cl s n ρ false = .ok (.nx ρ) := rfl
theorem wk_t : whK c cl s n ρ true = whS c cl s n (s ρ) := rfl
theorem ws_nx : whS c cl s n (.ok (.nx ρ)) = whileL c cl s n (clrD cl ρ) := rfl
theorem ws_ct : whS c cl s n (.ok (.ct ρ)) = whileL c cl s n (clrD cl ρ) := rfl
theorem ws_bk : whS c cl s n (.ok (.bk ρ)) = .ok (.nx ρ) := rfl
theorem ws_rt : whS c cl s n (.ok (.rt d ρ)) = .ok (.rt d ρ) := rfl
def revS (x : D) : R (List D) := match x with
  | .lst l => .ok l.reverse
  | _ => .no
theorem q_rev : iRev a ρ = (a ρ).bind revS := rfl
theorem rv_l : revS (.lst l) = .ok l.reverse := rfl
def dcS (g : DG) (c : DT) (ke ve : DE) (vs : List Nat) (ρ : DEnv) (l : List D) : R D := if l.length ≤ lineD ∧ okW vs ρ = true then (dcL g c ke ve (wipD vs ρ) l [] []).bind fun z => .ok (.dct z.1 z.2) else .no
theorem q_dcomp {it : DI} {g : DG} {ke ve : DE} {vs : List Nat} : eDComp it vs g c ke ve ρ = (it ρ).bind (dcS g c ke ve vs ρ) := rfl
/-- raise cn(..) -/
def raS (cn : String) (fs : List Str) (ρ : DEnv) (xs : List D) : R Out := if xs.length = fs.length then .ok (.xx ⟨cn, fs.reverse, xs.reverse⟩ ρ) else .no
theorem q_rais3 {cn : String} {fs : List Str} {as : DA} : sRaise cn fs as ρ = (as ρ).st ρ (raS cn fs ρ) := rfl
theorem ra_1 {cn : String} {f : Str} {x : D} : raS cn [f] ρ [x] = .ok (.xx ⟨cn, [f], [x]⟩ ρ) := rfl
theorem ra_2 {cn : String} {f g : Str} {x y : D} : raS cn [f, g] ρ [x, y] = .ok (.xx ⟨cn, [g, f], [y, x]⟩ ρ) := rfl
theorem ra_3 {cn : String} {f g h : Str} {x y z : D} : raS cn [f, g, h] ρ [x, y, z] = .ok (.xx ⟨cn, [h, g, f], [z, y, x]⟩ ρ) := rfl
theorem sT9 {mk : List D → D} {x0 x1 x2 x3 x4 x5 x6 x7 x8 : D} : seqS mk [x0, x1, x2, x3, x4, x5, x6, x7, x8] = .ok (mk [x0, x1, x2, x3, x4, x5, x6, x7, x8]) := if_pos (by show 9 ≤ lineD; decide)
theorem sT10 {mk : List D → D} {x0 x1 x2 x3 x4 x5 x6 x7 x8 x9 : D} : seqS mk [x0, x1, x2, x3, x4, x5, x6, x7, x8, x9] = .ok (mk [x0, x1, x2, x3, x4, x5, x6, x7, x8, x9]) := if_pos (by show 10 ≤ lineD; decide)
theorem sT11 {mk : List D → D} {x0 x1 x2 x3 x4 x5 x6 x7 x8 x9 x10 : D} : seqS mk [x0, x1, x2, x3, x4, x5, x6, x7, x8, x9, x10] = .ok (mk [x0, x1, x2, x3, x4, x5, x6, x7, x8, x9, x10]) := if_pos (by show 11 ≤ lineD; decide)
theorem sT12 {mk : List D → D} {x0 x1 x2 x3 x4 x5 x6 x7 x8 x9 x10 x11 : D} : seqS mk [x0, x1, x2, x3, x4, x5, x6, x7, x8, x9, x10, x11] = .ok (mk [x0, x1, x2, x3, x4, x5, x6, x7, x8, x9, x10, x11]) := if_pos (by show 12 ≤ lineD; decide)
theorem sT13 {mk : List D → D} {x0 x1 x2 x3 x4 x5 x6 x7 x8 x9 x10 x11 x12 : D} : seqS mk [x0, x1, x2, x3, x4, x5, x6, x7, x8, x9, x10, x11, x12] = .ok (mk [x0, x1, x2, x3, x4, x5, x6, x7, x8, x9, x10, x11, x12]) := if_pos (by show 13 ≤ lineD; decide)
theorem sT14 {mk : List D → D} {x0 x1 x2 x3 x4 x5 x6 x7 x8 x9 x10 x11 x12 x13 : D} : seqS mk [x0, x1, x2, x3, x4, x5, x6, x7, x8, x9, x10, x11, x12, x13] = .ok (mk [x0, x1, x2, x3, x4, x5, x6, x7, x8, x9, x10, x11, x12, x13]) := if_pos (by show 14 ≤ lineD; decide)
def ev3 := And.intro @sT9 <| And.intro @sT10 <| And.intro @sT11 <| And.intro @sT12 <| And.intro @sT13 <| And.intro @sT14 <| And.intro @q_rais3 <| And.intro @ra_1 <| And.intro @ra_2 <| And.intro @ra_3 <| And.intro @q_rev <| And.intro @rv_l <| And.intro @q_dcomp <| And.intro @km_t <| And.intro @km_f <| And.intro @km_n <| And.intro @km_0 <| And.intro @k1_v <| And.intro @k1_o <| And.intro @k1_n <| And.intro @se_n <| And.intro @se_v <| And.intro @se_o <| And.intro @se_0 <| And.intro @q_ownX <| And.intro @ox_n <| And.intro @ox_t <| And.intro @q_clrE <| And.intro @ce_o <| And.intro @ce_v <| And.intro @q_pop <| And.intro @pop_o <| And.intro @q_while <| And.intro @wk_f <| And.intro @wk_t <| And.intro @ws_nx <| And.intro @ws_ct <| And.intro @ws_bk @ws_rt
end
end Tw

namespace Tw
open PySem
/-- a loop that runs through: what holds ahead of each turn -/
theorem forL_inv {g : DG} {cl : List Nat} {b : DS} (I : Nat → DEnv → Prop) : ∀ (l : List D) (n : Nat) (ρ : DEnv), I n ρ →
    (∀ i d ρ, l[i]? = some d → I (n + i) ρ → ∃ ρ', ((g d ρ).bind b = .ok (.nx ρ') ∨ (g d ρ).bind b = .ok (.ct ρ')) ∧ I (n + i + 1) (clrD cl ρ')) →
    ∃ ρ', forL g cl b l ρ = .ok (.nx ρ') ∧ I (n + l.length) ρ'
  | [], n, ρ, h, _ => ⟨ρ, rfl, h⟩
  | d :: l, n, ρ, h, hs => by
    obtain ⟨ρ1, e, h1⟩ := hs 0 d ρ rfl h
    obtain ⟨ρ2, e2, h2⟩ := forL_inv I l (n + 1) (clrD cl ρ1) h1 fun i d ρ hd hI => by
      have := hs (i + 1) d ρ (by simpa using hd) (by rw [show n + (i + 1) = n + 1 + i by omega]; exact hI)
      rwa [show n + (i + 1) + 1 = n + 1 + i + 1 by omega] at this
    refine ⟨ρ2, ?_, by rw [List.length_cons, show n + (l.length + 1) = n + 1 + l.length by omega]; exact h2⟩
    rcases e with e | e
    · simp only [forL, e]; exact e2
    · simp only [forL, e]; exact e2
theorem forL_ok {g : DG} {cl : List Nat} {b : DS} (I : Nat → DEnv → Prop) (l : List D) (ρ : DEnv) (h : I 0 ρ)
    (hs : ∀ i d ρ, l[i]? = some d → I i ρ → ∃ ρ', ((g d ρ).bind b = .ok (.nx ρ') ∨ (g d ρ).bind b = .ok (.ct ρ')) ∧ I (i + 1) (clrD cl ρ')) :
    ∃ ρ', forL g cl b l ρ = .ok (.nx ρ') ∧ I l.length ρ' := by
  obtain ⟨ρ', e, k⟩ := forL_inv I l 0 ρ h fun i d ρ hd hI => by
    rw [Nat.zero_add] at hI ⊢
    exact hs i d ρ hd hI
  rw [Nat.zero_add] at k
  exact ⟨ρ', e, k⟩
/-- the state ahead of each turn, told -/
theorem forL_st {g : DG} {cl : List Nat} {b : DS} (s : Nat → DEnv) (l : List D) (hs : ∀ i d, l[i]? = some d → ∃ ρ', ((g d (s i)).bind b = .ok (.nx ρ') ∨ (g d (s i)).bind b = .ok (.ct ρ')) ∧ clrD cl ρ' = s (i + 1)) :
    forL g cl b l (s 0) = .ok (.nx (s l.length)) := by
  obtain ⟨ρ', e, k⟩ := forL_ok (g := g) (cl := cl) (b := b) (fun i ρ => ρ = s i) l (s 0) rfl fun i d ρ hd hI => by
    subst hI
    exact hs i d hd
  rw [e, k]
theorem any_deq_str (s : Str) (l : List Str) : ((l.map D.str).any fun y => deq y (.str s)) = decide (s ∈ l) := by
  induction l with
  | nil => rfl
  | cons a l ih =>
    simp only [List.map_cons, List.any_cons, ih, deq, List.mem_cons, Bool.decide_or]
    congr 1
    by_cases h : s = a
    · subst h; simp
    · have h' : ¬ a = s := fun e => h e.symm
      simp [h, h']
theorem all_flat_str (l : List Str) : (l.map D.str).all flatD = true := by
  induction l with
  | nil => rfl
  | cons a l ih => simp [flatD]
theorem inD_tup_str (s : Str) (l : List Str) : inD (.str s) (.tup (l.map .str)) = some (decide (s ∈ l)) := by
  unfold inD
  simp only [show flatD (.str s) = true from rfl, all_flat_str, Bool.and_self, if_true, any_deq_str]
theorem inD_lst_str (s : Str) (l : List Str) : inD (.str s) (.lst (l.map .str)) = some (decide (s ∈ l)) := by
  unfold inD
  simp only [show flatD (.str s) = true from rfl, all_flat_str, Bool.and_self, if_true, any_deq_str]
theorem atD_pos {α : Type} {l : List α} {i : Int} (h : 0 ≤ i) : atD l i = l[i.toNat]? := by
  unfold atD
  rw [if_pos h]
theorem rangeD_get {n : Int} {i : Nat} {d : D} (h : (rangeD n)[i]? = some d) : d = .int i ∧ i < n.toNat := by
  unfold rangeD at h
  rw [List.getElem?_map] at h
  obtain ⟨j, e, rfl⟩ := Option.map_eq_some_iff.mp h
  have hi : i < n.toNat := by
    have := (List.getElem?_eq_some_iff.mp e).1
    rwa [List.length_range] at this
  rw [List.getElem?_range hi] at e
  cases e
  exact ⟨rfl, hi⟩
theorem rangeD_len {n : Int} : (rangeD n).length = n.toNat := by unfold rangeD; rw [List.length_map, List.length_range]
theorem oMod_ok {i j : Int} (h : 0 < j) : oMod (.int i) (.int j) = some (.int (i % j)) := by
  unfold oMod
  exact if_pos h
theorem oFdiv_ok {i j : Int} (h : 0 < j) (k : j < 1073741824) : oFdiv (.int i) (.int j) = some (.int (i / j)) := by
  unfold oFdiv
  exact if_pos ⟨h, k⟩
theorem oMul_r {i j : Int} (h : w64 j) : oMul (.int i) (.int j) = some (.int (i * j)) := by
  unfold oMul
  exact if_pos (.inr h)
theorem oMul_l {i j : Int} (h : w64 i) : oMul (.int i) (.int j) = some (.int (i * j)) := by
  unfold oMul
  exact if_pos (.inl h)
theorem sSeq_nx {a b : DS} {ρ ρ1 : DEnv} (h : a ρ = .ok (.nx ρ1)) : sSeq a b ρ = b ρ1 := by
  unfold sSeq
  rw [h]
theorem sSeq_rt {a b : DS} {ρ ρ1 : DEnv} {d : D} (h : a ρ = .ok (.rt d ρ1)) : sSeq a b ρ = .ok (.rt d ρ1) := by
  unfold sSeq
  rw [h]
theorem defD_rt {n p : Nat} {b : DS} {ds : List D} {d : D} {ρ : DEnv} (hl : ds.length = p) (h : b (envD n ds) = .ok (.rt d ρ)) : defD n p b ds = .ok d := by
  unfold defD
  rw [if_pos hl, h]
theorem sIf_t {c : DT} {a b : DS} {ρ : DEnv} (h : c ρ = .ok true) : sIf c a b ρ = a ρ := by
  unfold sIf
  rw [h]
  rfl
theorem sIf_f {c : DT} {a b : DS} {ρ : DEnv} (h : c ρ = .ok false) : sIf c a b ρ = b ρ := by
  unfold sIf
  rw [h]
  rfl
theorem sFor_ok {it : DI} {g : DG} {cl : List Nat} {b : DS} {ρ : DEnv} {l : List D} (h : it ρ = .ok l) : sFor it g cl b ρ = forL g cl b l (clrD cl ρ) := by
  unfold sFor
  rw [h]
  rfl
theorem sSet_ok {i : Nat} {e : DE} {ρ ρ1 : DEnv} {d : D} (h : e ρ = .ok d) (k : setV i d ρ = .ok ρ1) : sSet i e ρ = .ok (.nx ρ1) := by
  unfold sSet
  rw [h, R.st_ok, k]
  rfl
theorem sOwn_ok {i : Nat} {e : DE} {ρ ρ1 : DEnv} {d : D} (h : e ρ = .ok d) (k : setO i d ρ = .ok ρ1) : sOwn i e ρ = .ok (.nx ρ1) := by
  unfold sOwn
  rw [h, R.st_ok, k]
  rfl
theorem sRet_ok {e : DE} {ρ : DEnv} {d : D} (h : e ρ = .ok d) : sRet e ρ = .ok (.rt d ρ) := by
  unfold sRet
  rw [h]
  rfl
theorem e1_ok {f : D → Option D} {a : DE} {ρ : DEnv} {x y : D} (h : a ρ = .ok x) (k : f x = some y) : e1 f a ρ = .ok y := by
  unfold e1
  rw [h, R.bind_ok, k]
  rfl
theorem e2_ok {f : D → D → Option D} {a b : DE} {ρ : DEnv} {x y z : D} (h : a ρ = .ok x) (h2 : b ρ = .ok y) (k : f x y = some z) : e2 f a b ρ = .ok z := by
  unfold e2
  rw [h, R.bind_ok, h2, R.bind_ok, k]
  rfl
theorem tVal_ok {a : DE} {ρ : DEnv} {b : Bool} (h : a ρ = .ok (.bl b)) : tVal a ρ = .ok b := by
  unfold tVal
  rw [h]
  rfl
theorem iRange_ok {a : DE} {ρ : DEnv} {n : Int} (h : a ρ = .ok (.int n)) (hn : rngOk n) : iRange a ρ = .ok (rangeD n) := by
  unfold iRange
  rw [h]
  exact rngR_ok hn
theorem iOf_ok {a : DE} {ρ : DEnv} {d : D} {l : List D} (h : a ρ = .ok d) (k : iterD d = some l) : iOf a ρ = .ok l := by
  unfold iOf
  rw [h, R.bind_ok, k]
  rfl
end Tw

set_option maxHeartbeats 2000000
namespace Tw
open PySem
theorem law_cell_ok (ns : List Int) (k : Int) (hk : 0 ≤ k) : ∃ c : Int, d_law_cell [.scr ns, .int k] = .ok (.int c) := by
  by_cases h : k < (ns.length : Int)
  · have hn : k.toNat < ns.length := by omega
    refine ⟨ns[k.toNat], ?_⟩
    simp [d_law_cell, defD, envD, b_law_cell, sSeq, sIf, tVal, e1, e2, eVar, eC, oLen, oLt, h, sRet, oIx, atD_pos hk, List.getElem?_eq_getElem hn, oInt]
  · refine ⟨(ns.sum * 31 + k * 1009 + ns.length) % 1000003, ?_⟩
    simp [d_law_cell, defD, envD, b_law_cell, sSeq, sIf, tVal, e1, e2, eVar, eC, oLen, oLt, h, sRet, sNext, oSum, oMul_r (show w64 31 by decide), oMul_r (show w64 1009 by decide), oAdd, oInt, oMod]
/-- the entries stand below their limits -/
def Below (row ls : List Int) : Prop := ∀ (i : Nat) (x l : Int), row[i]? = some x → ls[i]? = some l → 0 ≤ x ∧ x < l
theorem Below.snoc {row ls : List Int} {x l : Int} (h : Below row ls) (hl : ls[row.length]? = some l) (hx : 0 ≤ x ∧ x < l) : Below (row ++ [x]) ls := fun i y m e1 e2 => by
  by_cases hi : i < row.length
  · rw [List.getElem?_append_left hi] at e1
    exact h i y m e1 e2
  · rw [List.getElem?_append_right (by omega)] at e1
    have hi2 : i - row.length = 0 := by
      rcases Nat.eq_zero_or_pos (i - row.length) with z | z
      · exact z
      · rw [List.getElem?_eq_none (by simp; omega)] at e1
        cases e1
    have : i = row.length := by omega
    subst this
    rw [Nat.sub_self] at e1
    simp at e1
    subst e1
    rw [hl] at e2
    cases e2
    exact hx
theorem map_get {l : List Int} {i : Nat} {d : D} (h : (l.map D.int)[i]? = some d) : ∃ x, l[i]? = some x ∧ d = .int x := by
  rw [List.getElem?_map] at h
  obtain ⟨x, e, rfl⟩ := Option.map_eq_some_iff.mp h
  exact ⟨x, e, rfl⟩
theorem pow1018 : oPow (.int 10) (.int 18) = some (.int 1000000000000000000) := by
  show (if (0 : Int) ≤ 18 ∧ (18 : Int) ≤ 1000000 ∧ (10 : Int).natAbs < 2 ^ 64 then some (D.int (10 ^ (18 : Int).toNat)) else none) = _
  rw [if_pos (by decide)]
  rfl
theorem row_step2 (c s r l : Int) (ls acc : List D) (n : Int) (A B : Int) (l1 : 0 < l) (hlen : acc.length < lineD)
  (hA : (r * 48271 + s * 7919 + n * 69621 + 11) % 2147483647 = A) (hA1 : w64 A) (hB2 : (A * (A / 1024 + 16807) + r + n) % 2147483399 = B)
  (qa : oIx (.lst ls) (.int n) = some (.int l)) :
  (gVar 6 (.int n) [some (.val (.int c)), some (.val (.int s)), some (.val (.lst ls)), some (.own (.lst acc)), some (.val (.int r)), none, none, none]).bind b_law_row_2 =
   .ok (.nx [some (.val (.int c)), some (.val (.int s)), some (.val (.lst ls)), some (.own (.lst (acc ++ [.int (B / 11 % l)]))), some (.val (.int r)), none, some (.val (.int n)), some (.val (.int B))]) := by
  have q1 : ∀ x, oMod (.int x) (.int 2147483647) = some (.int (x % 2147483647)) := fun x => oMod_ok (by decide)
  have q2 : ∀ x, oMod (.int x) (.int 2147483399) = some (.int (x % 2147483399)) := fun x => oMod_ok (by decide)
  have q3 : ∀ x, oFdiv (.int x) (.int 1024) = some (.int (x / 1024)) := fun x => oFdiv_ok (by decide) (by decide)
  have q4 : ∀ x, oFdiv (.int x) (.int 11) = some (.int (x / 11)) := fun x => oFdiv_ok (by decide) (by decide)
  have q5 : ∀ x, oMul (.int x) (.int 48271) = some (.int (x * 48271)) := fun x => oMul_r (by decide)
  have q6 : ∀ x, oMul (.int x) (.int 7919) = some (.int (x * 7919)) := fun x => oMul_r (by decide)
  have q7 : ∀ x, oMul (.int x) (.int 69621) = some (.int (x * 69621)) := fun x => oMul_r (by decide)
  have q8 : ∀ x, oMul (.int A) (.int x) = some (.int (A * x)) := fun x => oMul_l hA1
  have q9 : ∀ x, oMod (.int x) (.int l) = some (.int (x % l)) := fun x => oMod_ok l1
  simp only [gVar, setV, b_law_row_2, sSeq, sApp, sSet, e1, e2, eVar, eC, oInt, oAdd, List.getElem?_cons_succ, List.getElem?_cons_zero, List.set_cons_succ, List.set_cons_zero, R.bind_ok, R.st_ok, R.of_some, q1, q2, q3, q4, q5, q6, q7, hA, q8, hB2, q9, qa, hlen, if_true]
theorem row_step (c s r l : Int) (ls acc : List D) (n : Int) (l1 : 0 < l) (hlen : acc.length < lineD) (qa : oIx (.lst ls) (.int n) = some (.int l)) : ∃ v B : Int, (0 ≤ v ∧ v < l) ∧
  (gVar 6 (.int n) [some (.val (.int c)), some (.val (.int s)), some (.val (.lst ls)), some (.own (.lst acc)), some (.val (.int r)), none, none, none]).bind b_law_row_2 =
   .ok (.nx [some (.val (.int c)), some (.val (.int s)), some (.val (.lst ls)), some (.own (.lst (acc ++ [.int v]))), some (.val (.int r)), none, some (.val (.int n)), some (.val (.int B))]) := by
  have k1 : ∀ x : Int, w64 (x % 2147483647) := fun x => by
    have m1 : 0 ≤ x % 2147483647 ∧ x % 2147483647 < 2147483647 := ⟨Int.emod_nonneg _ (by decide), Int.emod_lt_of_pos _ (by decide)⟩
    exact w64_of (by omega) (by omega)
  exact ⟨_, _, ⟨Int.emod_nonneg _ (Int.ne_of_gt l1), Int.emod_lt_of_pos _ l1⟩, row_step2 c s r l ls acc n _ _ l1 hlen rfl (k1 _) rfl qa⟩
theorem law_row_ok (c s : Int) (ls : List Int) (h : ∀ l ∈ ls, 0 < l ∧ l < 1073741824) (hl : ls.length < 1000000) :
    ∃ row : List Int, d_law_row [.int c, .int s, .lst (ls.map .int)] = .ok (.lst (row.map .int)) ∧ row.length = ls.length ∧ Below row ls := by
  have hb : ∀ {i : Nat} {l : Int}, ls[i]? = some l → 0 < l ∧ l < 1073741824 := fun e => h _ (List.mem_of_getElem? e)
  have ab : ∃ r : Int, oAbs (.int c) = some (.int r) := ⟨_, rfl⟩
  obtain ⟨r, hr⟩ := ab
  by_cases hbig : (1000000000000000000 : Int) ≤ r
  · have loop := forL_ok (g := gVar 5) (cl := [5]) (b := b_law_row_1) (fun i ρ => ∃ (acc : List Int) (q : Int), ρ = [some (.val (.int c)), some (.val (.int s)), some (.val (.lst (ls.map .int))), some (.own (.lst (acc.map .int))), some (.val (.int q)), none, none, none] ∧ acc.length = i ∧ Below acc ls)
      (ls.map .int) [some (.val (.int c)), some (.val (.int s)), some (.val (.lst (ls.map .int))), some (.own (.lst [])), some (.val (.int r)), none, none, none] ⟨[], r, rfl, rfl, fun i x l e => by simp at e⟩ (fun i d ρ hd hI => by
        obtain ⟨acc, q, rfl, rfl, hB⟩ := hI
        obtain ⟨l, e, rfl⟩ := map_get hd
        obtain ⟨l1, l2⟩ := hb e
        have hlen : acc.length < lineD := by
          have := (List.getElem?_eq_some_iff.mp e).1
          show acc.length < 16777216
          omega
        refine ⟨[some (.val (.int c)), some (.val (.int s)), some (.val (.lst (ls.map .int))), some (.own (.lst ((acc ++ [q % l]).map .int))), some (.val (.int (q / l))), some (.val (.int l)), none, none], .inl ?_, acc ++ [q % l], q / l, rfl, by simp, hB.snoc e ⟨Int.emod_nonneg _ (by omega), Int.emod_lt_of_pos _ l1⟩⟩
        simp [gVar, setV, b_law_row_1, sSeq, sApp, sSet, e1, e2, eVar, oMod, oInt, oFdiv, l1, l2, hlen])
    obtain ⟨ρ, e, acc, q, rfl, hlen, hB⟩ := loop
    rw [List.length_map] at hlen
    refine ⟨acc, ?_, hlen, hB⟩
    simp [d_law_row, defD, envD, b_law_row, sSeq, sOwn, setO, eLst, aNil, sSet, setV, e1, e2, eVar, eC, oInt, hr, pow1018, oGe, sIf, tVal, hbig, sFor, iOf, iterD, clrD, clr1]
    rw [e]
    simp [sFrz, frzD, sRet, eVar]
  · obtain ⟨n, hn⟩ : ∃ n : Int, n = ls.length := ⟨_, rfl⟩
    have loop := forL_ok (g := gVar 6) (cl := [6, 7]) (b := b_law_row_2) (fun i ρ => ∃ (acc : List Int), ρ = [some (.val (.int c)), some (.val (.int s)), some (.val (.lst (ls.map .int))), some (.own (.lst (acc.map .int))), some (.val (.int r)), none, none, none] ∧ acc.length = i ∧ Below acc ls)
      (rangeD n) [some (.val (.int c)), some (.val (.int s)), some (.val (.lst (ls.map .int))), some (.own (.lst [])), some (.val (.int r)), none, none, none] ⟨[], rfl, rfl, fun i x l e => by simp at e⟩ (fun i d ρ hd hI => by
        obtain ⟨acc, rfl, rfl, hB⟩ := hI
        obtain ⟨rfl, hi⟩ := rangeD_get hd
        have hi : acc.length < ls.length := by rw [hn, Int.toNat_natCast] at hi; exact hi
        have e : ls[acc.length]? = some ls[acc.length] := List.getElem?_eq_getElem hi
        obtain ⟨l1, l2⟩ := hb e
        have hlen : acc.length < lineD := by
          show acc.length < 16777216
          omega
        have qa : oIx (.lst (ls.map .int)) (.int acc.length) = some (.int ls[acc.length]) := by
          simp only [oIx, atD_pos (Int.natCast_nonneg _), Int.toNat_natCast, List.getElem?_map, e, Option.map_some]
        obtain ⟨v, B, hv, st⟩ := row_step c s r ls[acc.length] (ls.map .int) (acc.map .int) acc.length l1 (by rw [List.length_map]; exact hlen) qa
        refine ⟨_, .inl st, acc ++ [v], ?_, by rw [List.length_append]; rfl, hB.snoc e hv⟩
        rw [List.map_append]
        rfl)
    obtain ⟨ρ, e, acc, rfl, hlen, hB⟩ := loop
    rw [rangeD_len] at hlen
    refine ⟨acc, ?_, by rw [hlen, hn, Int.toNat_natCast], hB⟩
    have hrng : rngOk n := rngOk_of (by omega) (by omega)
    have hlenD : oLen (.lst (ls.map .int)) = some (.int n) := by rw [hn]; simp only [oLen, List.length_map]
    clear hn
    refine defD_rt (ρ := [some (.val (.int c)), some (.val (.int s)), some (.val (.lst (ls.map .int))), some (.val (.lst (acc.map .int))), some (.val (.int r)), none, none, none]) rfl ?_
    unfold b_law_row
    refine Eq.trans (sSeq_nx (sOwn_ok (d := .lst []) rfl rfl)) ?_
    refine Eq.trans (sSeq_nx (sSet_ok (e1_ok (e1_ok (y := .int c) rfl rfl) hr) rfl)) ?_
    refine Eq.trans (sSeq_nx (ρ1 := [some (.val (.int c)), some (.val (.int s)), some (.val (.lst (ls.map .int))), some (.own (.lst [])), some (.val (.int r)), none, none, none]) (Eq.trans (sIf_f (tVal_ok (e2_ok (x := .int r) (y := .int 1000000000000000000) rfl (e2_ok rfl rfl pow1018) (by simp only [oGe, hbig, decide_false])))) rfl)) ?_
    refine Eq.trans (sSeq_nx (Eq.trans (sFor_ok (iRange_ok (e1_ok (x := .lst (ls.map .int)) rfl hlenD) hrng)) e)) ?_
    rfl
end Tw

set_option maxHeartbeats 2000000
namespace Tw
open PySem
/-- a text by its signs -/
def S (l : List Nat) : Str := ⟨l.toArray⟩
theorem S_inj {a b : List Nat} (h : S a = S b) : a = b := by
  have := congrArg (fun s : Str => s.cps.toList) h
  simpa [S] using this
theorem S_app (a b : List Nat) : S a ++ S b = S (a ++ b) := by
  show Str.append _ _ = _
  unfold Str.append S
  simp
theorem S_len (a : List Nat) : (S a).length = a.length := by
  unfold S Str.length
  simp
def LT : List Nat := [65, 66, 67, 68, 69, 70, 71, 72, 73, 74, 75, 76, 77, 78, 79, 80, 81, 82, 83, 84, 85, 86, 87, 88, 89, 90, 97, 98, 99, 100, 101, 102, 103, 104, 105, 106, 107, 108, 109, 110, 111, 112, 113, 114, 115, 116, 117, 118, 119, 120, 121, 122]
def DG10 : List Nat := [48, 49, 50, 51, 52, 53, 54, 55, 56, 57]
abbrev sLT : Str := Str.ofString "ABCDEFGHIJKLMNOPQRSTUVWXYZabcdefghijklmnopqrstuvwxyz"
abbrev sDG : Str := Str.ofString "0123456789"
theorem sLT_eq : sLT = S LT := by decide +kernel
theorem sDG_eq : sDG = S DG10 := by decide +kernel
theorem oAdd_S {a b : List Nat} (h : a.length + b.length ≤ lineD) : oAdd (.str (S a)) (.str (S b)) = some (.str (S (a ++ b))) := by
  show (if (S a).length + (S b).length ≤ lineD then some (D.str (S a ++ S b)) else none) = _
  rw [S_len, S_len, if_pos h, S_app]
theorem oLen_S {a : List Nat} (h : a.length ≤ lineD) : oLen (.str (S a)) = some (.int a.length) := by
  show (if (S a).length ≤ lineD then some (D.int (S a).length) else none) = _
  rw [S_len, if_pos h]
theorem oIx_S {a : List Nat} {i : Int} {c : Nat} (h : a.length ≤ lineD) (hi : 0 ≤ i) (e : a[i.toNat]? = some c) : oIx (.str (S a)) (.int i) = some (.str (S [c])) := by
  show (if (S a).length ≤ lineD then (match atD (S a).cps.toList i with | some c => some (D.str ⟨#[c]⟩) | none => none) else none) = _
  rw [S_len, if_pos h, atD_pos hi, show (S a).cps.toList = a by simp [S], e]
  rfl
/-- the word k of the style: its front, its letter, its back -/
def wordL (f b : List Nat) (z : Bool) (t : Nat) (k : Nat) : List Nat :=
  f ++ [LT.getD ((k * 5 + t) % 52) 0] ++ ((if 52 ≤ k then [121] else []) ++ (b ++ (if z && k % 2 == 1 then [122] else [])))
def isFr (f : List Nat) : Prop := f = [] ∨ f = [113] ∨ f = [90, 120] ∨ f = [110, 55, 119]
def isBk (b : List Nat) : Prop := b = [] ∨ b = [48] ∨ b = [97, 66] ∨ b = [57, 107]
theorem isFr.len {f : List Nat} (h : isFr f) : f.length ≤ 3 := by rcases h with rfl | rfl | rfl | rfl <;> decide
theorem isBk.len {f : List Nat} (h : isBk f) : f.length ≤ 2 := by rcases h with rfl | rfl | rfl | rfl <;> decide
theorem mod4 (s : Int) : s % 4 = 0 ∨ s % 4 = 1 ∨ s % 4 = 2 ∨ s % 4 = 3 := by omega
theorem fr_ok (s : Int) : ∃ f, isFr f ∧ oIx (.lst [.str "", .str "q", .str "Zx", .str "n7w"]) (.int (s % 4)) = some (.str (S f)) := by
  rcases mod4 s with e | e | e | e <;> rw [e]
  · exact ⟨[], .inl rfl, congrArg (fun x => some (D.str x)) (show Str.ofString "" = S [] by decide +kernel)⟩
  · exact ⟨[113], .inr (.inl rfl), congrArg (fun x => some (D.str x)) (show Str.ofString "q" = S [113] by decide +kernel)⟩
  · exact ⟨[90, 120], .inr (.inr (.inl rfl)), congrArg (fun x => some (D.str x)) (show Str.ofString "Zx" = S [90, 120] by decide +kernel)⟩
  · exact ⟨[110, 55, 119], .inr (.inr (.inr rfl)), congrArg (fun x => some (D.str x)) (show Str.ofString "n7w" = S [110, 55, 119] by decide +kernel)⟩
theorem bk_ok (s : Int) : ∃ f, isBk f ∧ oIx (.lst [.str "", .str "0", .str "aB", .str "9k"]) (.int (s % 4)) = some (.str (S f)) := by
  rcases mod4 s with e | e | e | e <;> rw [e]
  · exact ⟨[], .inl rfl, congrArg (fun x => some (D.str x)) (show Str.ofString "" = S [] by decide +kernel)⟩
  · exact ⟨[48], .inr (.inl rfl), congrArg (fun x => some (D.str x)) (show Str.ofString "0" = S [48] by decide +kernel)⟩
  · exact ⟨[97, 66], .inr (.inr (.inl rfl)), congrArg (fun x => some (D.str x)) (show Str.ofString "aB" = S [97, 66] by decide +kernel)⟩
  · exact ⟨[57, 107], .inr (.inr (.inr rfl)), congrArg (fun x => some (D.str x)) (show Str.ofString "9k" = S [57, 107] by decide +kernel)⟩
theorem oEq_int (i j : Int) : oEq (.int i) (.int j) = some (.bl (i == j)) := rfl
theorem small_le {n : Nat} (h : n ≤ 1000) : n ≤ lineD := by
  show n ≤ 16777216
  omega
theorem mulz (i : Int) (h : i % 2 = 0 ∨ i % 2 = 1) : oMul (.str "z") (.int (i % 2)) = some (.str (S (if i % 2 = 1 then [122] else []))) := by
  rcases h with e | e <;> rw [e]
  · exact congrArg (fun x => some (D.str x)) (show repS (Str.ofString "z") 0 = S [] by decide +kernel)
  · exact congrArg (fun x => some (D.str x)) (show repS (Str.ofString "z") 1 = S [122] by decide +kernel)
theorem law_word_ok (s : Int) (hs : 0 ≤ s) : ∃ (f b : List Nat) (z : Bool) (t : Nat), isFr f ∧ isBk b ∧ ∀ k : Nat, k < 1000 → d_law_word [.int s, .int k] = .ok (.str (S (wordL f b z t k))) := by
  obtain ⟨f, hf, ef⟩ := fr_ok s
  obtain ⟨b, hb, eb⟩ := bk_ok (s / 4)
  have lf := hf.len
  have lb := hb.len
  refine ⟨f, b, s / 16 % 2 == 1, (s / 32).toNat, hf, hb, fun k hk => ?_⟩
  have d4 : oFdiv (.int s) (.int 4) = some (.int (s / 4)) := oFdiv_ok (by decide) (by decide)
  have d16 : oFdiv (.int s) (.int 16) = some (.int (s / 16)) := oFdiv_ok (by decide) (by decide)
  have d32 : oFdiv (.int s) (.int 32) = some (.int (s / 32)) := oFdiv_ok (by decide) (by decide)
  have m4 : ∀ x, oMod (.int x) (.int 4) = some (.int (x % 4)) := fun x => oMod_ok (by decide)
  have m2 : ∀ x, oMod (.int x) (.int 2) = some (.int (x % 2)) := fun x => oMod_ok (by decide)
  have m52 : ∀ x, oMod (.int x) (.int 52) = some (.int (x % 52)) := fun x => oMod_ok (by decide)
  have k5 : ∀ x, oMul (.int x) (.int 5) = some (.int (x * 5)) := fun x => oMul_r (by decide)
  have b1l : (b ++ (if (s / 16 % 2 == 1) && k % 2 == 1 then [122] else [])).length ≤ 3 := by
    rw [List.length_append]; split <;> simp <;> omega
  refine defD_rt (ρ := [some (.val (.int s)), some (.val (.int k)), some (.val (.str (S LT))), some (.val (.str (S f))), some (.val (.str (S ((if 52 ≤ k then [121] else []) ++ (b ++ (if (s / 16 % 2 == 1) && k % 2 == 1 then [122] else []))))))]) rfl ?_
  unfold b_law_word
  refine Eq.trans (sSeq_nx (ρ1 := [some (.val (.int s)), some (.val (.int k)), some (.val (.str (S LT))), none, none]) (sSet_ok (d := .str (S LT)) (congrArg (fun x => Tw.R.ok (D.str x)) sLT_eq) rfl)) ?_
  refine Eq.trans (sSeq_nx (sSet_ok (e2_ok (x := .lst [.str "", .str "q", .str "Zx", .str "n7w"]) (y := .int (s % 4)) rfl (e2_ok (x := .int s) rfl rfl (m4 _)) ef) rfl)) ?_
  refine Eq.trans (sSeq_nx (ρ1 := [some (.val (.int s)), some (.val (.int k)), some (.val (.str (S LT))), some (.val (.str (S f))), some (.val (.str (S b)))]) (sSet_ok (e2_ok (x := .lst [.str "", .str "0", .str "aB", .str "9k"]) (y := .int (s / 4 % 4)) rfl (e2_ok (e2_ok (x := .int s) rfl rfl d4) rfl (m4 _)) eb) rfl)) ?_
  refine Eq.trans (sSeq_nx (ρ1 := [some (.val (.int s)), some (.val (.int k)), some (.val (.str (S LT))), some (.val (.str (S f))), some (.val (.str (S (b ++ (if (s / 16 % 2 == 1) && k % 2 == 1 then [122] else [])))))]) ?_) ?_
  · have et : tVal (e2 oEq (e2 oMod (e2 oFdiv (e1 oInt (eVar 0)) (eC (.int 16))) (eC (.int 2))) (eC (.int 1))) [some (.val (.int s)), some (.val (.int k)), some (.val (.str (S LT))), some (.val (.str (S f))), some (.val (.str (S b)))] = .ok (s / 16 % 2 == 1) :=
      tVal_ok (e2_ok (e2_ok (e2_ok (x := .int s) rfl rfl d16) rfl (m2 _)) rfl (oEq_int _ _))
    cases hz : (s / 16 % 2 == 1) with
    | true =>
      rw [hz] at et
      refine Eq.trans (sIf_t et) ?_
      have hk2 : ((k : Int) % 2 = 1) ↔ (k % 2 = 1) := by omega
      have em := mulz (k : Int) (by omega)
      refine sSet_ok (e2_ok (x := .str (S b)) (y := .str (S (if (k : Int) % 2 = 1 then [122] else []))) rfl (e2_ok (x := .str "z") (y := .int ((k : Int) % 2)) rfl (e1_ok (e2_ok (x := .int k) rfl rfl (m2 _)) rfl) em) (oAdd_S (small_le ?_))) ?_
      · split <;> simp <;> omega
      · have ei : (if (k : Int) % 2 = 1 then [122] else ([] : List Nat)) = if (true && k % 2 == 1) then [122] else [] := by
          by_cases h : k % 2 = 1
          · rw [if_pos (hk2.mpr h), if_pos (by simp [h])]
          · rw [if_neg (fun z => h (hk2.mp z)), if_neg (by simp [h])]
        rw [ei]
        rfl
    | false =>
      rw [hz] at et
      refine Eq.trans (sIf_f et) ?_
      simp only [Bool.false_and, Bool.false_eq_true, if_false, List.append_nil]
      rfl
  · generalize hB : (b ++ (if (s / 16 % 2 == 1) && k % 2 == 1 then [122] else [])) = B at b1l ⊢
    have et : tVal (e2 oGe (eVar 1) (eC (.int 52))) [some (.val (.int s)), some (.val (.int k)), some (.val (.str (S LT))), some (.val (.str (S f))), some (.val (.str (S B)))] = .ok (decide ((52 : Int) ≤ (k : Int))) := tVal_ok (e2_ok (x := .int k) rfl rfl rfl)
    refine Eq.trans (sSeq_nx (ρ1 := [some (.val (.int s)), some (.val (.int k)), some (.val (.str (S LT))), some (.val (.str (S f))), some (.val (.str (S ((if 52 ≤ k then [121] else []) ++ B))))]) ?_) ?_
    · by_cases h : 52 ≤ k
      · rw [decide_eq_true (by omega)] at et
        refine Eq.trans (sIf_t et) ?_
        rw [if_pos h]
        exact sSet_ok (e2_ok (x := .str (S [121])) (y := .str (S B)) (congrArg (fun x => Tw.R.ok (D.str x)) (show Str.ofString "y" = S [121] by decide +kernel)) rfl (oAdd_S (small_le (by simp; omega)))) rfl
      · rw [decide_eq_false (by omega)] at et
        refine Eq.trans (sIf_f et) ?_
        rw [if_neg h]
        rfl
    · generalize hC : (if 52 ≤ k then [121] else []) ++ B = C
      have lC : C.length ≤ 4 := by rw [← hC, List.length_append]; split <;> simp <;> omega
      have hix : ((k : Int) * 5 + s / 32) % 52 = (((k * 5 + (s / 32).toNat) % 52 : Nat) : Int) := by
        have : (0 : Int) ≤ s / 32 := Int.ediv_nonneg hs (by decide)
        omega
      have hlt : (k * 5 + (s / 32).toNat) % 52 < 52 := Nat.mod_lt _ (by decide)
      have hg : LT[(k * 5 + (s / 32).toNat) % 52]? = some (LT.getD ((k * 5 + (s / 32).toNat) % 52) 0) := by
        rw [List.getD_eq_getElem?_getD, List.getElem?_eq_getElem (show _ < LT.length from hlt)]
        rfl
      have eix : oIx (.str (S LT)) (.int (((k : Int) * 5 + s / 32) % 52)) = some (.str (S [LT.getD ((k * 5 + (s / 32).toNat) % 52) 0])) := by
        rw [hix]
        exact oIx_S (small_le (by decide)) (Int.natCast_nonneg _) hg
      have ew : wordL f b (s / 16 % 2 == 1) (s / 32).toNat k = f ++ [LT.getD ((k * 5 + (s / 32).toNat) % 52) 0] ++ C := by
        unfold wordL
        rw [hB, hC]
      rw [ew]
      exact sRet_ok (e2_ok (e2_ok (x := .str (S f)) rfl (e2_ok (x := .str (S LT)) rfl (e2_ok (e1_ok (e2_ok (e2_ok (x := .int k) rfl rfl (k5 _)) (e2_ok (x := .int s) rfl rfl d32) rfl) rfl) rfl (m52 _)) eix) (oAdd_S (small_le (by simp; omega)))) rfl (oAdd_S (small_le (by simp; omega))))
end Tw

set_option maxHeartbeats 2000000
namespace Tw
open PySem
def isL (c : Nat) : Bool := decide (c ∈ LT)
def isLD (c : Nat) : Bool := decide (c ∈ LT) || decide (c ∈ DG10)
def isW : List Nat → Bool
  | [] => false
  | c :: l => decide (l.length < 8) && isL c && (c :: l).all isLD
theorem in_LT (c : Nat) : oNotIn (.str (S [c])) (.str sLT) = some (.bl (!isL c)) := by
  rw [sLT_eq]
  rfl
theorem in_DG (c : Nat) : oNotIn (.str (S [c])) (.str sDG) = some (.bl (!decide (c ∈ DG10))) := by
  rw [sDG_eq]
  rfl
theorem tOr_t {a b : DT} {ρ : DEnv} (h : a ρ = .ok true) : tOrD a b ρ = .ok true := by
  unfold tOrD
  rw [h]
  rfl
theorem tOr_f {a b : DT} {ρ : DEnv} {x : Bool} (h : a ρ = .ok false) (k : b ρ = .ok x) : tOrD a b ρ = .ok x := by
  unfold tOrD
  rw [h]
  exact k
theorem tAnd_t {a b : DT} {ρ : DEnv} {x : Bool} (h : a ρ = .ok true) (k : b ρ = .ok x) : tAndD a b ρ = .ok x := by
  unfold tAndD
  rw [h]
  exact k
theorem tAnd_f {a b : DT} {ρ : DEnv} (h : a ρ = .ok false) : tAndD a b ρ = .ok false := by
  unfold tAndD
  rw [h]
  rfl
theorem tNot_ok {a : DT} {ρ : DEnv} {x : Bool} (h : a ρ = .ok x) : tNotD a ρ = .ok (!x) := by
  unfold tNotD
  rw [h]
  rfl
theorem tTru_bl {a : DE} {ρ : DEnv} {b : Bool} (h : a ρ = .ok (.bl b)) : tTru a ρ = .ok b := by
  unfold tTru
  rw [h]
  rfl
theorem iw_step (w : D) (c : Nat) : (gVar 1 (.str (S [c])) [some (.val w), none]).bind b_Titled_is_word_1 = if isLD c then .ok (.nx [some (.val w), some (.val (.str (S [c])))]) else .ok (.rt (.bl false) [some (.val w), some (.val (.str (S [c])))]) := by
  show b_Titled_is_word_1 [some (.val w), some (.val (.str (S [c])))] = _
  unfold b_Titled_is_word_1
  have t1 : tVal (e2 oNotIn (eVar 1) (eC (.str sLT))) [some (.val w), some (.val (.str (S [c])))] = .ok (!isL c) := tVal_ok (e2_ok (x := .str (S [c])) rfl rfl (in_LT c))
  have t2 : tVal (e2 oNotIn (eVar 1) (eC (.str sDG))) [some (.val w), some (.val (.str (S [c])))] = .ok (!decide (c ∈ DG10)) := tVal_ok (e2_ok (x := .str (S [c])) rfl rfl (in_DG c))
  cases h1 : isL c with
  | true =>
    rw [h1] at t1
    refine Eq.trans (sIf_f (tAnd_f t1)) ?_
    have : isLD c = true := by unfold isLD; rw [show decide (c ∈ LT) = true from h1]; rfl
    rw [if_pos this]
    rfl
  | false =>
    rw [h1] at t1
    cases h2 : decide (c ∈ DG10) with
    | true =>
      rw [h2] at t2
      refine Eq.trans (sIf_f (tAnd_t t1 t2)) ?_
      have : isLD c = true := by unfold isLD; rw [show decide (c ∈ LT) = false from h1, h2]; rfl
      rw [if_pos this]
      rfl
    | false =>
      rw [h2] at t2
      refine Eq.trans (sIf_t (tAnd_t t1 t2)) ?_
      have : isLD c = false := by unfold isLD; rw [show decide (c ∈ LT) = false from h1, h2]; rfl
      rw [this]
      rfl
theorem iw_loop (w : D) : ∀ l : List Nat, (l.all isLD = true → forL (gVar 1) [1] b_Titled_is_word_1 (l.map fun c => .str (S [c])) [some (.val w), none] = .ok (.nx [some (.val w), none])) ∧
    (l.all isLD = false → ∃ ρ, forL (gVar 1) [1] b_Titled_is_word_1 (l.map fun c => .str (S [c])) [some (.val w), none] = .ok (.rt (.bl false) ρ))
  | [] => ⟨fun _ => rfl, fun h => by cases h⟩
  | c :: l => by
    have ih := iw_loop w l
    have st := iw_step w c
    cases hc : isLD c with
    | true =>
      rw [hc, if_pos rfl] at st
      have e : forL (gVar 1) [1] b_Titled_is_word_1 ((c :: l).map fun c => .str (S [c])) [some (.val w), none] = forL (gVar 1) [1] b_Titled_is_word_1 (l.map fun c => .str (S [c])) [some (.val w), none] := by
        simp only [List.map_cons, forL, st]
        rfl
      rw [e, List.all_cons, hc, Bool.true_and]
      exact ih
    | false =>
      rw [hc, if_neg Bool.false_ne_true] at st
      refine ⟨fun h => (by rw [List.all_cons, hc] at h; cases h), fun _ => ⟨[some (.val w), some (.val (.str (S [c])))], ?_⟩⟩
      simp only [List.map_cons, forL, st]
theorem defD_of {n p : Nat} {b : DS} {ds : List D} {d : D} (hl : ds.length = p) (h : ∃ ρ, b (envD n ds) = .ok (.rt d ρ)) : defD n p b ds = .ok d := let ⟨_, h⟩ := h; defD_rt hl h
theorem is_word_ok (l : List Nat) (hl : l.length ≤ 1000) : d_Titled_is_word [.str (S l)] = .ok (.bl (isW l)) := by
  refine defD_of rfl ?_
  show ∃ ρ, b_Titled_is_word [some (.val (.str (S l))), none] = _
  unfold b_Titled_is_word
  have el : e1 oLen (eVar 0) [some (.val (.str (S l))), none] = .ok (.int l.length) := e1_ok (x := .str (S l)) rfl (oLen_S (small_le hl))
  have t1 : tVal (e2 oLt (e1 oLen (eVar 0)) (eC (.int 1))) [some (.val (.str (S l))), none] = .ok (decide ((l.length : Int) < 1)) := tVal_ok (e2_ok el rfl rfl)
  have t2 : tVal (e2 oGt (e1 oLen (eVar 0)) (eC (.int 8))) [some (.val (.str (S l))), none] = .ok (decide ((8 : Int) < l.length)) := tVal_ok (e2_ok el rfl rfl)
  have out : ∀ {c : DT} {q : DS}, c [some (.val (.str (S l))), none] = .ok true → ∃ ρ, sSeq (sIf c (sRet (eC (.bl false))) sNext) q [some (.val (.str (S l))), none] = .ok (.rt (.bl false) ρ) := fun h => ⟨_, sSeq_rt (Eq.trans (sIf_t h) rfl)⟩
  cases l with
  | nil => exact out (tOr_t t1)
  | cons c l =>
    rw [decide_eq_false (by rw [List.length_cons]; omega)] at t1
    have t3 : tVal (e2 oNotIn (e2 oIx (eVar 0) (eC (.int 0))) (eC (.str sLT))) [some (.val (.str (S (c :: l)))), none] = .ok (!isL c) :=
      tVal_ok (e2_ok (e2_ok (x := .str (S (c :: l))) rfl rfl (oIx_S (c := c) (small_le hl) (Int.le_refl 0) rfl)) rfl (in_LT c))
    rw [show isW (c :: l) = (decide (l.length < 8) && isL c && (c :: l).all isLD) from rfl]
    by_cases h8 : l.length < 8
    · rw [decide_eq_false (by rw [List.length_cons]; omega)] at t2
      rw [decide_eq_true h8, Bool.true_and]
      cases hc : isL c with
      | false =>
        rw [hc] at t3
        exact out (tOr_f t1 (tOr_f t2 t3))
      | true =>
        rw [hc] at t3
        rw [Bool.true_and]
        have hn : sIf (tOrD (tVal (e2 oLt (e1 oLen (eVar 0)) (eC (.int 1)))) (tOrD (tVal (e2 oGt (e1 oLen (eVar 0)) (eC (.int 8)))) (tVal (e2 oNotIn (e2 oIx (eVar 0) (eC (.int 0))) (eC (.str sLT)))))) (sRet (eC (.bl false))) sNext [some (.val (.str (S (c :: l)))), none] = .ok (.nx [some (.val (.str (S (c :: l)))), none]) :=
          Eq.trans (sIf_f (tOr_f t1 (tOr_f t2 t3))) rfl
        have hf : sFor (iOf (eVar 0)) (gVar 1) [1] b_Titled_is_word_1 [some (.val (.str (S (c :: l)))), none] = forL (gVar 1) [1] b_Titled_is_word_1 ((c :: l).map fun c => .str (S [c])) [some (.val (.str (S (c :: l)))), none] :=
          sFor_ok (iOf_ok (d := .str (S (c :: l))) rfl (by simp [iterD, S]))
        have lp := iw_loop (.str (S (c :: l))) (c :: l)
        cases ha : (c :: l).all isLD with
        | true => exact ⟨_, Eq.trans (sSeq_nx hn) (Eq.trans (sSeq_nx (Eq.trans hf (lp.1 ha))) rfl)⟩
        | false =>
          obtain ⟨ρ, e⟩ := lp.2 ha
          exact ⟨ρ, Eq.trans (sSeq_nx hn) (sSeq_rt (Eq.trans hf e))⟩
    · rw [decide_eq_true (by rw [List.length_cons]; omega)] at t2
      rw [decide_eq_false h8, Bool.false_and, Bool.false_and]
      exact out (tOr_f t1 (tOr_t t2))
theorem isLD_LT {n : Nat} (h : n < 52) : isL (LT.getD n 0) = true ∧ isLD (LT.getD n 0) = true := by
  have : ∀ i : Fin 52, isL (LT.getD i.1 0) = true ∧ isLD (LT.getD i.1 0) = true := by decide +kernel
  exact this ⟨n, h⟩
theorem LT_inj {n m : Nat} (h : n < 52) (k : m < 52) (e : LT.getD n 0 = LT.getD m 0) : n = m := by
  have : ∀ i j : Fin 52, LT.getD i.1 0 = LT.getD j.1 0 → i = j := by decide +kernel
  exact congrArg Fin.val (this ⟨n, h⟩ ⟨m, k⟩ e)
theorem word_ok {f b : List Nat} {z : Bool} {t k : Nat} (hf : isFr f) (hb : isBk b) : isW (wordL f b z t k) = true ∧ (wordL f b z t k).length ≤ 8 := by
  obtain ⟨h1, h2⟩ := isLD_LT (Nat.mod_lt (k * 5 + t) (show 0 < 52 by decide))
  unfold wordL
  generalize LT.getD ((k * 5 + t) % 52) 0 = c at h1 h2
  have hy : (if 52 ≤ k then [121] else ([] : List Nat)) = [] ∨ (if 52 ≤ k then [121] else ([] : List Nat)) = [121] := by split <;> simp
  have hz : (if z && k % 2 == 1 then [122] else ([] : List Nat)) = [] ∨ (if z && k % 2 == 1 then [122] else ([] : List Nat)) = [122] := by split <;> simp
  have d1 : isLD 113 = true := by decide +kernel
  have d2 : isLD 90 = true := by decide +kernel
  have d3 : isLD 120 = true := by decide +kernel
  have d4 : isLD 110 = true := by decide +kernel
  have d5 : isLD 55 = true := by decide +kernel
  have d6 : isLD 119 = true := by decide +kernel
  have d7 : isLD 48 = true := by decide +kernel
  have d8 : isLD 97 = true := by decide +kernel
  have d9 : isLD 66 = true := by decide +kernel
  have da : isLD 57 = true := by decide +kernel
  have db : isLD 107 = true := by decide +kernel
  have dc : isLD 121 = true := by decide +kernel
  have dd : isLD 122 = true := by decide +kernel
  have g1 : isL 113 = true := by decide +kernel
  have g2 : isL 90 = true := by decide +kernel
  have g3 : isL 110 = true := by decide +kernel
  rcases hy with e | e <;> rw [e] <;> rcases hz with e | e <;> rw [e] <;> rcases hf with rfl | rfl | rfl | rfl <;> rcases hb with rfl | rfl | rfl | rfl <;>
    simp [isW, h1, h2, d1, d2, d3, d4, d5, d6, d7, d8, d9, da, db, dc, dd, g1, g2, g3]
theorem word_inj {f b : List Nat} {z : Bool} {t j k : Nat} (hj : j < 62) (hk : k < 62) (e : wordL f b z t j = wordL f b z t k) : j = k := by
  unfold wordL at e
  rw [List.append_assoc, List.append_assoc] at e
  have e := List.append_cancel_left e
  simp only [List.singleton_append, List.cons.injEq] at e
  obtain ⟨e1, e2⟩ := e
  have em := LT_inj (Nat.mod_lt _ (by decide)) (Nat.mod_lt _ (by decide)) e1
  have h52 : j % 52 = k % 52 := by omega
  have hp : j % 2 = k % 2 := by omega
  have el := congrArg List.length e2
  rw [hp] at el
  simp only [List.length_append] at el
  by_cases a : 52 ≤ j <;> by_cases c : 52 ≤ k <;> simp [a, c] at el <;> omega
end Tw

set_option maxHeartbeats 2000000
namespace Tw
open PySem
def stL (ws : List (List Nat)) : List D := ws.map fun w => .str (S w)
theorem stL_eq (ws : List (List Nat)) : stL ws = (ws.map S).map D.str := by unfold stL; rw [List.map_map]; rfl
theorem mem_S {w : List Nat} {ws : List (List Nat)} : S w ∈ ws.map S ↔ w ∈ ws := by
  refine ⟨fun h => ?_, fun h => List.mem_map_of_mem h⟩
  obtain ⟨v, hv, e⟩ := List.mem_map.mp h
  rwa [← S_inj e]
theorem inD_lst (w : List Nat) (ws : List (List Nat)) : inD (.str (S w)) (.lst (stL ws)) = some (decide (w ∈ ws)) := by
  rw [stL_eq, inD_lst_str]
  congr 1
  exact decide_eq_decide.mpr mem_S
theorem inD_tup (w : List Nat) (ws : List (List Nat)) : inD (.str (S w)) (.tup (stL ws)) = some (decide (w ∈ ws)) := by
  rw [stL_eq, inD_tup_str]
  congr 1
  exact decide_eq_decide.mpr mem_S
theorem oIn_lst (w : List Nat) (ws : List (List Nat)) : oIn (.str (S w)) (.lst (stL ws)) = some (.bl (decide (w ∈ ws))) := by
  unfold oIn
  rw [inD_lst]
  rfl
theorem oIn_tup (w : List Nat) (ws : List (List Nat)) : oIn (.str (S w)) (.tup (stL ws)) = some (.bl (decide (w ∈ ws))) := by
  unfold oIn
  rw [inD_tup]
  rfl
theorem stL_len (ws : List (List Nat)) : (stL ws).length = ws.length := by unfold stL; rw [List.length_map]
theorem stL_app (a b : List (List Nat)) : stL (a ++ b) = stL a ++ stL b := by unfold stL; rw [List.map_append]
theorem stL_get {ws : List (List Nat)} {i : Nat} {d : D} (h : (stL ws)[i]? = some d) : ∃ w, ws[i]? = some w ∧ d = .str (S w) := by
  unfold stL at h
  rw [List.getElem?_map] at h
  obtain ⟨w, e, rfl⟩ := Option.map_eq_some_iff.mp h
  exact ⟨w, e, rfl⟩
/-- a list or a tuple of these -/
def Lt (d : D) (l : List D) : Prop := d = .lst l ∨ d = .tup l
theorem Lt.list {d : D} {l : List D} (h : Lt d l) : oList d = some (.lst l) := by rcases h with rfl | rfl <;> rfl
theorem Lt.tuple {d : D} {l : List D} (h : Lt d l) : oTuple d = some (.tup l) := by rcases h with rfl | rfl <;> rfl
theorem sApp_ok {i : Nat} {e : DE} {ρ ρ1 : DEnv} {l : List D} {d : D} (h : ρ[i]? = some (some (.own (.lst l)))) (k : e ρ = .ok d) (hl : l.length < lineD) (r : ρ.set i (some (.own (.lst (l ++ [d])))) = ρ1) : sApp i e ρ = .ok (.nx ρ1) := by
  unfold sApp
  rw [h]
  simp only [k, R.st_ok, if_pos hl, r]
theorem sFld_ok {i : Nat} {f : Str} {e : DE} {ρ ρ1 : DEnv} {d s s' : D} (h : ρ[i]? = some (some (.slf s))) (k : e ρ = .ok d) (p : putF f d s = some s') (r : ρ.set i (some (.slf s')) = ρ1) : sFld i f e ρ = .ok (.nx ρ1) := by
  unfold sFld
  rw [k]
  simp only [R.st_ok, h, p, r]
theorem eCall_ok {f : List D → R D} {as : DA} {ρ : DEnv} {ds : List D} {d : D} (h : as ρ = .ok ds) (k : f ds = .ok d) : eCall f as ρ = .ok d := by
  unfold eCall
  rw [h]
  exact k
theorem aCons_ok {a : DE} {as : DA} {ρ : DEnv} {d : D} {ds : List D} (h : a ρ = .ok d) (k : as ρ = .ok ds) : aCons a as ρ = .ok (d :: ds) := by
  unfold aCons
  rw [h, R.bind_ok, k]
  rfl
theorem decl_step (s nd sd : D) (w : List Nat) (gs : List (List Nat)) (hw : isW w = true) (hl : w.length ≤ 1000) (hg : gs.length < 1000) (hn : w ∉ gs) :
    (gVar 4 (.str (S w)) [some (.slf s), some (.val nd), some (.val sd), some (.own (.lst (stL gs))), none]).bind b_Declaring_init_1 = .ok (.nx [some (.slf s), some (.val nd), some (.val sd), some (.own (.lst (stL (gs ++ [w])))), some (.val (.str (S w)))]) := by
  show b_Declaring_init_1 [some (.slf s), some (.val nd), some (.val sd), some (.own (.lst (stL gs))), some (.val (.str (S w)))] = _
  unfold b_Declaring_init_1
  have c1 := is_word_ok w hl
  rw [hw] at c1
  refine Eq.trans (sSeq_nx (Eq.trans (sIf_f (tNot_ok (tTru_bl (eCall_ok (aCons_ok (d := .str (S w)) rfl rfl) c1)))) rfl)) ?_
  have c2 := oIn_lst w gs
  rw [decide_eq_false hn] at c2
  refine Eq.trans (sSeq_nx (Eq.trans (sIf_f (tVal_ok (e2_ok (x := .str (S w)) (y := .lst (stL gs)) rfl rfl c2))) rfl)) ?_
  exact sApp_ok (l := stL gs) (d := .str (S w)) rfl rfl (by rw [stL_len]; exact Nat.lt_of_lt_of_le hg (small_le (Nat.le_refl _))) (by rw [stL_app]; rfl)
theorem decl_ok {s s1 s2 nd sd : D} {ns ss : List (List Nat)} (hn : Lt nd (stL ns)) (hs : Lt sd (stL ss)) (hw : ∀ w ∈ ns ++ ss, isW w = true ∧ w.length ≤ 1000) (nd' : (ns ++ ss).Nodup) (hl : (ns ++ ss).length < 1000)
    (p1 : putF "names" (.tup (stL ns)) s = some s1) (p2 : putF "statics" (.tup (stL ss)) s1 = some s2) :
    ∃ ρ, b_Declaring_init [some (.slf s), some (.val nd), some (.val sd), none, none] = .ok (.nx (some (.slf s2) :: ρ)) := by
  unfold b_Declaring_init
  refine ⟨[some (.val nd), some (.val sd), some (.own (.lst (stL (ns ++ ss)))), none], ?_⟩
  refine Eq.trans (sSeq_nx (sOwn_ok (d := .lst []) rfl rfl)) ?_
  have loop := forL_st (g := gVar 4) (cl := [4]) (b := b_Declaring_init_1) (fun i => [some (.slf s), some (.val nd), some (.val sd), some (.own (.lst (stL ((ns ++ ss).take i)))), none]) (stL (ns ++ ss)) (fun i d hd => by
    obtain ⟨w, e, rfl⟩ := stL_get hd
    obtain ⟨hi, e'⟩ := List.getElem?_eq_some_iff.mp e
    have hm := List.mem_of_getElem? e
    have ht : w ∉ (ns ++ ss).take i := fun z => by
      obtain ⟨j, hj, ej⟩ := List.mem_iff_getElem.mp z
      rw [List.length_take] at hj
      rw [List.getElem_take] at ej
      have := (List.getElem_inj (h₀ := by omega) (h₁ := hi) nd').mp (ej.trans e'.symm)
      omega
    refine ⟨_, .inl (decl_step s nd sd w _ (hw w hm).1 (hw w hm).2 (by rw [List.length_take]; omega) ht), ?_⟩
    have : (ns ++ ss).take (i + 1) = (ns ++ ss).take i ++ [w] := by rw [List.take_succ, e]; rfl
    show [some (Slot.slf s), some (.val nd), some (.val sd), some (.own (.lst (stL ((ns ++ ss).take i ++ [w])))), none] = _
    rw [this])
  rw [stL_len, List.take_length] at loop
  have ea : oAdd (.lst (stL ns)) (.lst (stL ss)) = some (.lst (stL (ns ++ ss))) := by
    show (if (stL ns).length + (stL ss).length ≤ lineD then some (D.lst (stL ns ++ stL ss)) else none) = _
    rw [List.length_append] at hl
    rw [stL_len, stL_len, if_pos (small_le (by omega)), stL_app]
  refine Eq.trans (sSeq_nx (Eq.trans (sFor_ok (iOf_ok (d := .lst (stL (ns ++ ss))) (e2_ok (e1_ok (x := nd) rfl hn.list) (e1_ok (x := sd) rfl hs.list) ea) rfl)) loop)) ?_
  refine Eq.trans (sSeq_nx (sFld_ok (s := s) rfl (e1_ok (x := nd) rfl hn.tuple) p1 rfl)) ?_
  exact sFld_ok (s := s1) rfl (e1_ok (x := sd) rfl hs.tuple) p2 rfl
theorem putF_ok {f : Str} {v : D} {c : String} {ks : List Str} {vs : List D} (h : ks.length < 999) (k : f ∈ fldOf c) : putF f v (.obj c ks vs) = some (.obj c (putDk f ks) (putDv f v ks vs)) := if_pos ⟨h, k⟩
end Tw

set_option maxHeartbeats 2000000
namespace Tw
open PySem
abbrev Wd := List Nat
theorem isW_len {w : Wd} (h : isW w = true) : w.length ≤ 8 := by
  cases w with
  | nil => exact Nat.zero_le _
  | cons c l =>
    rw [show isW (c :: l) = (decide (l.length < 8) && isL c && (c :: l).all isLD) from rfl] at h
    have := of_decide_eq_true (Bool.and_eq_true_iff.mp (Bool.and_eq_true_iff.mp h).1).1
    exact this
theorem isw_ok {w : Wd} (h : isW w = true) : d_Titled_is_word [.str (S w)] = .ok (.bl true) := by
  rw [is_word_ok w (by have := isW_len h; omega), h]
theorem putN {f : Str} {c : String} {ks : List Str} {vs : List D} {v : D} (h1 : f ∈ fldOf c) (h2 : f ∉ ks) (h3 : ks.length < 999) (h4 : ks.length = vs.length) : putF f v (.obj c ks vs) = some (.obj c (ks ++ [f]) (vs ++ [v])) := by
  have k1 : ∀ ks : List Str, f ∉ ks → putDk f ks = ks ++ [f] := by
    intro ks
    induction ks with
    | nil => intro _; rfl
    | cons k ks ih =>
      intro h
      unfold putDk
      rw [if_neg (fun z => h (by rw [z]; exact List.mem_cons_self)), ih fun z => h (List.mem_cons_of_mem _ z)]
      rfl
  have k2 : ∀ (ks : List Str) (vs : List D), f ∉ ks → ks.length = vs.length → putDv f v ks vs = vs ++ [v] := by
    intro ks
    induction ks with
    | nil => intro vs _ e; cases vs <;> simp_all [putDv]
    | cons k ks ih =>
      intro vs h e
      cases vs with
      | nil => simp at e
      | cons u vs =>
        unfold putDv
        rw [if_neg (fun z => h (by rw [z]; exact List.mem_cons_self)), ih vs (fun z => h (List.mem_cons_of_mem _ z)) (by simpa using e)]
        rfl
  rw [putF_ok h3 h1, k1 ks h2, k2 ks vs h2 h4]
theorem put0 {f : Str} {c : String} {v : D} (h1 : f ∈ fldOf c) : putF f v (.obj c [] []) = some (.obj c [f] [v]) := putN h1 (by simp) (by decide) rfl
theorem put1 {f k : Str} {c : String} {v a : D} (h1 : f ∈ fldOf c) (h2 : f ∉ [k]) : putF f v (.obj c [k] [a]) = some (.obj c [k, f] [a, v]) := putN h1 h2 (by simp) rfl
theorem put2 {f k1 k2 : Str} {c : String} {v a1 a2 : D} (h1 : f ∈ fldOf c) (h2 : f ∉ [k1, k2]) : putF f v (.obj c [k1, k2] [a1, a2]) = some (.obj c [k1, k2, f] [a1, a2, v]) := putN h1 h2 (by simp) rfl
theorem put3 {f k1 k2 k3 : Str} {c : String} {v a1 a2 a3 : D} (h1 : f ∈ fldOf c) (h2 : f ∉ [k1, k2, k3]) : putF f v (.obj c [k1, k2, k3] [a1, a2, a3]) = some (.obj c [k1, k2, k3, f] [a1, a2, a3, v]) := putN h1 h2 (by simp) rfl
theorem put4 {f k1 k2 k3 k4 : Str} {c : String} {v a1 a2 a3 a4 : D} (h1 : f ∈ fldOf c) (h2 : f ∉ [k1, k2, k3, k4]) : putF f v (.obj c [k1, k2, k3, k4] [a1, a2, a3, a4]) = some (.obj c [k1, k2, k3, k4, f] [a1, a2, a3, a4, v]) := putN h1 h2 (by simp) rfl
theorem put5 {f k1 k2 k3 k4 k5 : Str} {c : String} {v a1 a2 a3 a4 a5 : D} (h1 : f ∈ fldOf c) (h2 : f ∉ [k1, k2, k3, k4, k5]) : putF f v (.obj c [k1, k2, k3, k4, k5] [a1, a2, a3, a4, a5]) = some (.obj c [k1, k2, k3, k4, k5, f] [a1, a2, a3, a4, a5, v]) := putN h1 h2 (by simp) rfl
theorem look_h {k : Str} {ks : List Str} {v : D} {vs : List D} : lookD (k :: ks) (v :: vs) k = some v := if_pos rfl
theorem look_t {x k : Str} {ks : List Str} {v : D} {vs : List D} (h : x ≠ k) : lookD (k :: ks) (v :: vs) x = lookD ks vs x := if_neg h
theorem titled_ok {c : String} {w : Wd} (hc : Str.ofString "title" ∈ fldOf c) (hw : isW w = true) : d_Titled_init (.obj c [] []) [.str (S w)] = .ok (.non, .obj c ["title"] [.str (S w)]) := by
  rw [e_Titled_init]
  unfold b_Titled_init
  simp -implicitDefEqProofs (disch := (first | assumption | omega | (simp only [ngs]; done) | decide)) only [ev, R.bind_ok, R.bind_ex, R.st_ok, R.st_ex, R.of_some, List.length_map, isw_ok hw, put0 hc, slfP, noGst, if_true]
/-- a direct base: its title, whether it is shared -/
abbrev BS := Wd × Bool
def bD (b : BS) : D := .obj "Base" ["title", "is_shared"] [.str (S b.1), .bl b.2]
theorem base_ok {w : Wd} {b : Bool} (hw : isW w = true) : d_Base_init (.obj "Base" [] []) [.str (S w), .bl b] = .ok (.non, bD (w, b)) := by
  rw [e_Base_init]
  unfold b_Base_init
  simp -implicitDefEqProofs (disch := (first | assumption | omega | (simp only [ngs]; done) | decide)) only [ev, R.bind_ok, R.bind_ex, R.st_ok, R.st_ex, R.of_some, List.length_map, titled_ok (c := "Base") (by decide +kernel) hw, put1 (c := "Base") (f := "is_shared") (k := "title") (by decide +kernel) (by decide +kernel), slfP, noGst, if_true, bD]
theorem mkbase_ok {w : Wd} {b : Bool} (hw : isW w = true) : mkD "Base" d_Base_init [.str (S w), .bl b] = .ok (bD (w, b)) := by
  simp -implicitDefEqProofs (disch := (first | assumption | omega | (simp only [ngs]; done) | decide)) only [ev, R.bind_ok, R.bind_ex, R.st_ok, R.st_ex, R.of_some, List.length_map, q_mkd, base_ok hw]
/-- Declaring's part of an object -/
theorem declI_ok {c : String} {ks : List Str} {vs : List D} {nd sd : D} {ns ss : List Wd} (hc : Str.ofString "names" ∈ fldOf c ∧ Str.ofString "statics" ∈ fldOf c) (h2 : Str.ofString "names" ∉ ks ∧ Str.ofString "statics" ∉ ks) (h3 : ks.length < 900) (h4 : ks.length = vs.length) (hg : noGst (vs ++ [.tup (stL ns), .tup (stL ss)]) = true)
    (hn : Lt nd (stL ns)) (hs : Lt sd (stL ss)) (hw : ∀ w ∈ ns ++ ss, isW w = true) (nd' : (ns ++ ss).Nodup) (hl : (ns ++ ss).length < 1000) :
    d_Declaring_init (.obj c ks vs) [nd, sd] = .ok (.non, .obj c (ks ++ [Str.ofString "names", Str.ofString "statics"]) (vs ++ [.tup (stL ns), .tup (stL ss)])) := by
  have p1 : putF "names" (.tup (stL ns)) (.obj c ks vs) = some (.obj c (ks ++ [Str.ofString "names"]) (vs ++ [.tup (stL ns)])) := putN hc.1 h2.1 (by omega) h4
  have p2 : putF "statics" (.tup (stL ss)) (.obj c (ks ++ [Str.ofString "names"]) (vs ++ [.tup (stL ns)])) = some (.obj c (ks ++ [Str.ofString "names", Str.ofString "statics"]) (vs ++ [.tup (stL ns), .tup (stL ss)])) := by
    rw [putN hc.2 (by
      intro z
      rcases List.mem_append.mp z with z | z
      · exact h2.2 z
      · exact absurd z (by decide +kernel)) (by simp; omega) (by simp [h4])]
    simp
  obtain ⟨ρ, e⟩ := decl_ok hn hs (fun w hw' => ⟨hw w hw', by have := isW_len (hw w hw'); omega⟩) nd' hl p1 p2
  rw [e_Declaring_init, e]
  simp -implicitDefEqProofs (disch := (first | assumption | omega | (simp only [ngs]; done) | decide)) only [ev, R.bind_ok, R.bind_ex, R.st_ok, R.st_ex, R.of_some, List.length_map, slfP, hg, if_true]
structure Dr where
  t : Wd
  ns : List Wd
  ss : List Wd
  bs : List BS
def drD (r : Dr) : D := .obj "Draft" ["title", "names", "statics", "bases"] [.str (S r.t), .tup (stL r.ns), .tup (stL r.ss), .tup (r.bs.map bD)]
structure DrOk (r : Dr) : Prop where
  t : isW r.t = true
  w : ∀ w ∈ r.ns ++ r.ss, isW w = true
  nd : (r.ns ++ r.ss).Nodup
  nl : (r.ns ++ r.ss).length < 1000
  bd : (r.bs.map Prod.fst).Nodup
  bw : ∀ b ∈ r.bs, isW b.1 = true
  bl : r.bs.length < 1000
theorem bD_title (b : BS) : oFld "title" (bD b) = some (.str (S b.1)) := rfl
theorem bD_sh (b : BS) : oFld "is_shared" (bD b) = some (.bl b.2) := by
  rw [bD, p_fld, look_t (by decide +kernel), look_h]
theorem draft_loop (o0 o1 o2 o3 o4 : Option Slot) : ∀ (bs : List BS) (gs : List Wd), ((gs ++ bs.map Prod.fst).Nodup) → gs.length + bs.length < 1000 →
    forL (gVar 6) [6] b_Draft_init_1 (bs.map bD) [o0, o1, o2, o3, o4, some (.own (.lst (stL gs))), none] = .ok (.nx [o0, o1, o2, o3, o4, some (.own (.lst (stL (gs ++ bs.map Prod.fst)))), none])
  | [], gs, _, _ => by rw [List.map_nil, List.map_nil, List.append_nil]; rfl
  | b :: bs, gs, h, hl => by
    have hn : b.1 ∉ gs := fun z => by
      rw [List.map_cons, List.nodup_append] at h
      exact h.2.2 _ z _ List.mem_cons_self rfl
    have e1 := oIn_lst b.1 gs
    rw [decide_eq_false hn] at e1
    have h' : (gs ++ [b.1] ++ bs.map Prod.fst).Nodup := by rw [List.append_assoc]; exact h
    have ih := draft_loop o0 o1 o2 o3 o4 bs (gs ++ [b.1]) h' (by simp at hl ⊢; omega)
    simp only [List.length_cons] at hl
    have ll : (stL gs).length < 1000000 := by rw [stL_len]; omega
    have e2 : stL gs ++ [.str (S b.1)] = stL (gs ++ [b.1]) := by rw [stL_app]; rfl
    have st : b_Draft_init_1 [o0, o1, o2, o3, o4, some (.own (.lst (stL gs))), some (.val (bD b))] = .ok (.nx [o0, o1, o2, o3, o4, some (.own (.lst (stL (gs ++ [b.1])))), some (.val (bD b))]) := by
      unfold b_Draft_init_1
      simp -implicitDefEqProofs (disch := (first | assumption | omega | (simp only [ngs]; done) | decide)) only [ev, R.bind_ok, R.bind_ex, R.st_ok, R.st_ex, R.of_some, List.length_map, bD_title, e1, e2]
    rw [List.map_cons, f_c]
    simp -implicitDefEqProofs (disch := (first | assumption | omega | (simp only [ngs]; done) | decide)) only [ev, R.bind_ok, R.bind_ex, R.st_ok, R.st_ex, R.of_some, List.length_map, st, ih]
    rw [List.map_cons, List.append_assoc]
    rfl
theorem drInit_ok {r : Dr} {nd sd bd : D} (h : DrOk r) (hn : Lt nd (stL r.ns)) (hs : Lt sd (stL r.ss)) (hb : Lt bd (r.bs.map bD)) : d_Draft_init (.obj "Draft" [] []) [.str (S r.t), nd, sd, bd] = .ok (.non, drD r) := by
  rw [e_Draft_init]
  unfold b_Draft_init
  have e1 := declI_ok (c := "Draft") (ks := ["title"]) (vs := [.str (S r.t)]) (nd := nd) (sd := sd) (by decide +kernel) (by decide +kernel) (by decide) rfl rfl hn hs h.w h.nd h.nl
  have hi : iterD bd = some (r.bs.map bD) := by rcases hb with rfl | rfl <;> rfl
  have lp := fun o0 o1 o2 o3 o4 => draft_loop o0 o1 o2 o3 o4 r.bs [] (by simpa using h.bd) (by simpa using h.bl)
  rw [show stL [] = [] from rfl] at lp
  simp -implicitDefEqProofs (disch := (first | assumption | omega | (simp only [ngs]; done) | decide)) only [ev, R.bind_ok, R.bind_ex, R.st_ok, R.st_ex, R.of_some, List.length_map, titled_ok (c := "Draft") (by decide +kernel) h.t, e1, List.cons_append, List.nil_append, hi, lp, hb.tuple, put3 (c := "Draft") (f := "bases") (k1 := "title") (k2 := "names") (k3 := "statics") (by decide +kernel) (by decide +kernel), slfP, noGst, if_true, drD]
theorem mkdr_ok {r : Dr} {nd sd bd : D} (h : DrOk r) (hn : Lt nd (stL r.ns)) (hs : Lt sd (stL r.ss)) (hb : Lt bd (r.bs.map bD)) : mkD "Draft" d_Draft_init [.str (S r.t), nd, sd, bd] = .ok (drD r) := by
  simp -implicitDefEqProofs (disch := (first | assumption | omega | (simp only [ngs]; done) | decide)) only [ev, R.bind_ok, R.bind_ex, R.st_ok, R.st_ex, R.of_some, List.length_map, q_mkd, drInit_ok h hn hs hb]
theorem drD_t (r : Dr) : oFld "title" (drD r) = some (.str (S r.t)) := rfl
theorem drD_n (r : Dr) : oFld "names" (drD r) = some (.tup (stL r.ns)) := by
  rw [drD, p_fld, look_t (by decide +kernel), look_h]
theorem drD_s (r : Dr) : oFld "statics" (drD r) = some (.tup (stL r.ss)) := by
  rw [drD, p_fld, look_t (by decide +kernel), look_t (by decide +kernel), look_h]
theorem drD_b (r : Dr) : oFld "bases" (drD r) = some (.tup (r.bs.map bD)) := by
  rw [drD, p_fld, look_t (by decide +kernel), look_t (by decide +kernel), look_t (by decide +kernel), look_h]
end Tw

set_option maxHeartbeats 2000000
namespace Tw
open PySem
structure CL where
  r : Dr
  ab : List Wd
  sh : List Wd
def kiD (c : CL) : D := .obj "Kind" ["title", "names", "statics", "bases", "above", "shared_bases"] [.str (S c.r.t), .tup (stL c.r.ns), .tup (stL c.r.ss), .tup (c.r.bs.map bD), .tup (stL c.ab), .tup (stL c.sh)]
/-- d shows the draft r -/
structure DLike (d : D) (r : Dr) : Prop where
  t : oFld "title" d = some (.str (S r.t))
  n : oFld "names" d = some (.tup (stL r.ns))
  s : oFld "statics" d = some (.tup (stL r.ss))
  b : oFld "bases" d = some (.tup (r.bs.map bD))
theorem drD_like (r : Dr) : DLike (drD r) r := ⟨drD_t r, drD_n r, drD_s r, drD_b r⟩
theorem ki_t (c : CL) : oFld "title" (kiD c) = some (.str (S c.r.t)) := by rw [kiD, p_fld, look_h]
theorem ki_b (c : CL) : oFld "bases" (kiD c) = some (.tup (c.r.bs.map bD)) := by rw [kiD, p_fld, look_t (by decide +kernel), look_t (by decide +kernel), look_t (by decide +kernel), look_h]
theorem ki_a (c : CL) : oFld "above" (kiD c) = some (.tup (stL c.ab)) := by rw [kiD, p_fld, look_t (by decide +kernel), look_t (by decide +kernel), look_t (by decide +kernel), look_t (by decide +kernel), look_h]
theorem ki_sh (c : CL) : oFld "shared_bases" (kiD c) = some (.tup (stL c.sh)) := by rw [kiD, p_fld, look_t (by decide +kernel), look_t (by decide +kernel), look_t (by decide +kernel), look_t (by decide +kernel), look_t (by decide +kernel), look_h]
theorem kiInit_ok {d : D} {c : CL} (h : DrOk c.r) (l : DLike d c.r) : d_Kind_init (.obj "Kind" [] []) [d, .tup (stL c.ab), .tup (stL c.sh)] = .ok (.non, kiD c) := by
  rw [e_Kind_init]
  unfold b_Kind_init
  have e1 := declI_ok (c := "Kind") (ks := ["title"]) (vs := [.str (S c.r.t)]) (nd := .tup (stL c.r.ns)) (sd := .tup (stL c.r.ss)) (by decide +kernel) (by decide +kernel) (by decide) rfl rfl (.inr rfl) (.inr rfl) h.w h.nd h.nl
  simp -implicitDefEqProofs (disch := (first | assumption | omega | (simp only [ngs]; done) | decide)) only [ev, R.bind_ok, R.bind_ex, R.st_ok, R.st_ex, R.of_some, List.length_map, l.t, l.n, l.s, l.b, titled_ok (c := "Kind") (by decide +kernel) h.t, e1, List.cons_append, List.nil_append,
    put3 (c := "Kind") (f := "bases") (k1 := "title") (k2 := "names") (k3 := "statics") (by decide +kernel) (by decide +kernel),
    put4 (c := "Kind") (f := "above") (k1 := "title") (k2 := "names") (k3 := "statics") (k4 := "bases") (by decide +kernel) (by decide +kernel),
    put5 (c := "Kind") (f := "shared_bases") (k1 := "title") (k2 := "names") (k3 := "statics") (k4 := "bases") (k5 := "above") (by decide +kernel) (by decide +kernel), slfP, noGst, if_true, kiD]
theorem mkki_ok {d : D} {c : CL} (h : DrOk c.r) (l : DLike d c.r) : mkD "Kind" d_Kind_init [d, .tup (stL c.ab), .tup (stL c.sh)] = .ok (kiD c) := by
  simp -implicitDefEqProofs (disch := (first | assumption | omega | (simp only [ngs]; done) | decide)) only [ev, R.bind_ok, R.bind_ex, R.st_ok, R.st_ex, R.of_some, List.length_map, q_mkd, kiInit_ok h l]
def trD (A : List Wd) : D := .dct (A.map S) (A.map fun _ => .bl true)
def putW (x : Wd) (A : List Wd) : List Wd := if x ∈ A then A else A ++ [x]
theorem mem_putW {x y : Wd} {A : List Wd} : x ∈ putW y A ↔ x ∈ A ∨ x = y := by
  unfold putW
  by_cases h : y ∈ A
  · rw [if_pos h]
    exact ⟨.inl, fun z => z.elim id fun e => e ▸ h⟩
  · rw [if_neg h, List.mem_append, List.mem_singleton]
theorem putW_len {x : Wd} {A : List Wd} : (putW x A).length ≤ A.length + 1 := by
  unfold putW
  split <;> simp
theorem mem_S' {w : Wd} {ws : List Wd} : S w ∈ ws.map S ↔ w ∈ ws := mem_S
theorem rep_true (x : Str) : ∀ ks : List Str, repDv x (.bl true) ks (ks.map fun _ => .bl true) = ks.map fun _ => .bl true
  | [] => rfl
  | k :: ks => by
    show (if k = x then D.bl true else D.bl true) :: repDv x (.bl true) ks (ks.map fun _ => .bl true) = _
    rw [rep_true x ks, ite_self]
    rfl
theorem trD_put (x : Wd) (A : List Wd) : D.dct (dPutK (S x) (A.map S)) (dPutV (S x) (.bl true) (A.map S) (A.map fun _ => .bl true)) = trD (putW x A) := by
  unfold trD putW dPutK dPutV
  by_cases h : x ∈ A
  · rw [if_pos (mem_S'.mpr h), if_pos (mem_S'.mpr h), if_pos h]
    have := rep_true (S x) (A.map S)
    rw [List.map_map] at this
    rw [show (A.map fun _ => D.bl true) = A.map ((fun _ => D.bl true) ∘ S) from rfl, this]
  · rw [if_neg (fun z => h (mem_S'.mp z)), if_neg (fun z => h (mem_S'.mp z)), if_neg h, List.map_append, List.map_append]
    rfl
theorem look_some : ∀ (ks : List Str) (vs : List D) (x : Str), ks.length = vs.length → (lookD ks vs x).isSome = decide (x ∈ ks)
  | [], vs, x, _ => by cases vs <;> rfl
  | k :: ks, [], x, h => by simp at h
  | k :: ks, v :: vs, x, h => by
    by_cases e : x = k
    · subst e; rw [look_h]; simp
    · rw [look_t e, look_some ks vs x (by simpa using h)]
      simp [e]
theorem oIn_dct {ks : List Wd} {vs : List D} {x : Wd} (h : ks.length = vs.length) : oIn (.str (S x)) (.dct (ks.map S) vs) = some (.bl (decide (x ∈ ks))) := by
  show (some (lookD (ks.map S) vs (S x)).isSome).bind _ = _
  rw [look_some _ _ _ (by rw [List.length_map]; exact h)]
  have : decide (S x ∈ ks.map S) = decide (x ∈ ks) := by rw [decide_eq_decide]; exact mem_S'
  rw [this]
  rfl
theorem oIn_trD (x : Wd) (A : List Wd) : oIn (.str (S x)) (trD A) = some (.bl (decide (x ∈ A))) := oIn_dct (by rw [List.length_map])
theorem oNotIn_of {x y : D} {b : Bool} (h : oIn x y = some (.bl b)) : oNotIn x y = some (.bl (!b)) := by
  unfold oIn at h
  unfold oNotIn
  cases e : inD x y with
  | none => rw [e] at h; cases h
  | some c =>
    rw [e] at h
    have : c = b := by
      have h' : some (D.bl c) = some (D.bl b) := h
      cases h'
      rfl
    rw [this]
    rfl
/-- the places of the titles -/
def plD (ts : List Wd) : D := .dct (ts.map S) ((List.range ts.length).map fun i : Nat => .int i)
theorem oIn_plD (x : Wd) (ts : List Wd) : oIn (.str (S x)) (plD ts) = some (.bl (decide (x ∈ ts))) := oIn_dct (by rw [List.length_map, List.length_range])
theorem idx_ne {x t : Wd} {ts : List Wd} (h : ¬ t = x) : (t :: ts).idxOf x = ts.idxOf x + 1 := by
  rw [List.idxOf_cons, show (t == x) = false from beq_eq_false_iff_ne.mpr h]
  rfl
theorem look_pl (x : Wd) : ∀ (ts : List Wd) (k : Nat), x ∈ ts → lookD (ts.map S) ((List.range' k ts.length).map fun i : Nat => .int i) (S x) = some (.int ((k + ts.idxOf x : Nat) : Int))
  | [], k, h => by cases h
  | t :: ts, k, h => by
    rw [List.length_cons, List.range'_succ, List.map_cons, List.map_cons]
    by_cases e : x = t
    · subst e
      rw [look_h, List.idxOf_cons_self, Nat.add_zero]
    · have e' : S x ≠ S t := fun z => e (S_inj z)
      rw [look_t e', look_pl x ts (k + 1) ((List.mem_cons.mp h).resolve_left e), idx_ne (fun z => e z.symm)]
      congr 2
      omega
theorem oIx_plD {x : Wd} {ts : List Wd} (h : x ∈ ts) : oIx (plD ts) (.str (S x)) = some (.int ((ts.idxOf x : Nat) : Int)) := by
  rw [plD, p_ixd, List.range_eq_range', look_pl x ts 0 h, Nat.zero_add]
theorem plD_put {x : Wd} {ts : List Wd} (h : x ∉ ts) : D.dct (dPutK (S x) (ts.map S)) (dPutV (S x) (.int ts.length) (ts.map S) ((List.range ts.length).map fun i : Nat => .int i)) = plD (ts ++ [x]) := by
  unfold plD dPutK dPutV
  rw [if_neg (fun z => h (mem_S'.mp z)), if_neg (fun z => h (mem_S'.mp z)), List.map_append, List.length_append, List.length_singleton, List.range_succ, List.map_append]
  rfl
def ttl (L : List CL) : List Wd := L.map fun c => c.r.t
def fnd (L : List CL) (x : Wd) : Option CL := L.find? fun c => c.r.t == x
theorem fnd_spec {x : Wd} : ∀ {L : List CL}, x ∈ ttl L → ∃ k, fnd L x = some k ∧ k.r.t = x ∧ k ∈ L ∧ L[(ttl L).idxOf x]? = some k
  | [], h => by cases h
  | c :: L, h => by
    by_cases e : c.r.t = x
    · refine ⟨c, ?_, e, List.mem_cons_self, ?_⟩
      · unfold fnd; rw [List.find?_cons, show (c.r.t == x) = true by rw [e]; exact beq_self_eq_true x]
      · unfold ttl; rw [List.map_cons, e, List.idxOf_cons_self]; rfl
    · have hx : x ∈ ttl L := (List.mem_cons.mp (show x ∈ c.r.t :: ttl L from h)).resolve_left fun z => e z.symm
      obtain ⟨k, h1, h2, h3, h4⟩ := fnd_spec hx
      refine ⟨k, ?_, h2, List.mem_cons_of_mem _ h3, ?_⟩
      · unfold fnd at h1 ⊢; rw [List.find?_cons, show (c.r.t == x) = false from beq_eq_false_iff_ne.mpr e]; exact h1
      · unfold ttl at h4 ⊢; rw [List.map_cons, idx_ne e, List.getElem?_cons_succ]; exact h4
def abOf (L : List CL) (x : Wd) : List Wd := match fnd L x with | some k => k.ab | none => []
def shOf (L : List CL) (x : Wd) : List Wd := match fnd L x with | some k => k.sh | none => []
/-- what the bases bs bring above -/
def inAb (L : List CL) (bs : List BS) (x : Wd) : Prop := ∃ b ∈ bs, x = b.1 ∨ x ∈ abOf L b.1
def inSh (L : List CL) (bs : List BS) (x : Wd) : Prop := ∃ b ∈ bs, (b.2 = true ∧ x = b.1) ∨ x ∈ shOf L b.1
instance (L : List CL) (bs : List BS) (x : Wd) : Decidable (inAb L bs x) := by unfold inAb; infer_instance
instance (L : List CL) (bs : List BS) (x : Wd) : Decidable (inSh L bs x) := by unfold inSh; infer_instance
def mkCL (L : List CL) (r : Dr) : CL := ⟨r, (ttl L).filter fun x => decide (inAb L r.bs x), (ttl L).filter fun x => decide (inSh L r.bs x)⟩
def nmAdd (nm ws : List Wd) : List Wd := ws.foldl (fun nm x => putW x nm) nm
/-- the draft may come behind L -/
structure AdOk (L : List CL) (r : Dr) : Prop where
  ok : DrOk r
  new : r.t ∉ ttl L
  bs : ∀ b ∈ r.bs, b.1 ∈ ttl L
def libS (nm : List Wd) : D := .obj "Library" ["kinds", "places", "names"] [.gst 12, .gst 13, .tup (stL nm)]
def liD (L : List CL) (nm : List Wd) : D := .obj "Library" ["kinds", "places", "names"] [.lst (L.map kiD), plD (ttl L), .tup (stL nm)]
end Tw

set_option maxHeartbeats 2000000
namespace Tw
open PySem
section
variable {i j : Nat} {f : Str} {a k e : DE} {ρ : DEnv} {v d : D} {ks : List Str} {vs l : List D} {o : Option Slot} {as : DA}
def putdS (i : Nat) (k : DE) (v : D) (ρ : DEnv) (o : Option Slot) : R Out := match o with
  | some (.own (.dct ks vs)) => (k ρ).st ρ fun x => match x with
    | .str s => if ks.length < lineD then .ok (.nx (ρ.set i (some (.own (.dct (dPutK s ks) (dPutV s v ks vs)))))) else .no
    | _ => .no
  | _ => .no
theorem q_putd : sPutD i k e ρ = (e ρ).st ρ fun v => putdS i k v ρ (getO i ρ) := by
  unfold sPutD putdS getO
  congr 1
  funext v
  cases h : ρ[i]? with
  | none => rfl
  | some o => cases o with
    | none => rfl
    | some o => cases o <;> first | rfl | (rename_i d; cases d <;> rfl)
def putd2 (i : Nat) (v : D) (ks : List Str) (vs : List D) (ρ : DEnv) (x : D) : R Out := match x with
  | .str s => ltS ks.length (.ok (.nx (ρ.set i (some (.own (.dct (dPutK s ks) (dPutV s v ks vs)))))))
  | _ => .no
theorem pd_d : putdS i k v ρ (some (.own (.dct ks vs))) = (k ρ).st ρ (putd2 i v ks vs ρ) := by
  show R.st _ _ _ = R.st _ _ _
  congr 1
theorem pd_s {s : Str} : putd2 i v ks vs ρ (.str s) = ltS ks.length (.ok (.nx (ρ.set i (some (.own (.dct (dPutK s ks) (dPutV s v ks vs))))))) := rfl
end
abbrev eA (nm : List Wd) (d : D) (A B : List Wd) (o4 o5 o6 o7 o8 o9 o10 : Option Slot) (K P : D) : DEnv :=
  [some (.slf (libS nm)), some (.val d), some (.own (trD A)), some (.own (trD B)), o4, o5, o6, o7, o8, o9, o10, none, some (.gho K), some (.gho P)]
section
variable {nm : List Wd} {d : D} {A B : List Wd} {o1 o2 o3 o4 o5 o6 o7 o8 o9 o10 o11 : Option Slot} {K P : D}
theorem f_kinds : fldG 0 "kinds" [some (.slf (libS nm)), o1, o2, o3, o4, o5, o6, o7, o8, o9, o10, o11, some (.gho K), some (.gho P)] = some (12, K) := by
  have : oFld "kinds" (libS nm) = some (.gst 12) := by rw [libS, p_fld, look_h]
  show (match (oFld "kinds" (libS nm)).bind gD1 with | some j => _ | none => none) = _
  rw [this]
  rfl
theorem f_places : fldG 0 "places" [some (.slf (libS nm)), o1, o2, o3, o4, o5, o6, o7, o8, o9, o10, o11, some (.gho K), some (.gho P)] = some (13, P) := by
  have : oFld "places" (libS nm) = some (.gst 13) := by rw [libS, p_fld, look_t (by decide +kernel), look_h]
  show (match (oFld "places" (libS nm)).bind gD1 with | some j => _ | none => none) = _
  rw [this]
  rfl
theorem s_kinds : eSelf 0 "kinds" [some (.slf (libS nm)), o1, o2, o3, o4, o5, o6, o7, o8, o9, o10, o11, some (.gho K), some (.gho P)] = .ok K := by
  unfold eSelf
  rw [f_kinds]
theorem s_places : eSelf 0 "places" [some (.slf (libS nm)), o1, o2, o3, o4, o5, o6, o7, o8, o9, o10, o11, some (.gho K), some (.gho P)] = .ok P := by
  unfold eSelf
  rw [f_places]
theorem s_names : eSelf 0 "names" [some (.slf (libS nm)), o1, o2, o3, o4, o5, o6, o7, o8, o9, o10, o11, some (.gho K), some (.gho P)] = .ok (.tup (stL nm)) := by
  have e : oFld "names" (libS nm) = some (.tup (stL nm)) := by rw [libS, p_fld, look_t (by decide +kernel), look_t (by decide +kernel), look_h]
  have e2 : fldG 0 "names" [some (.slf (libS nm)), o1, o2, o3, o4, o5, o6, o7, o8, o9, o10, o11, some (.gho K), some (.gho P)] = none := by
    unfold fldG
    simp only [List.getElem?_cons_zero, e, Option.bind_some, gD1]
  unfold eSelf
  simp only [e2, List.getElem?_cons_zero, e]
/-- above[title] = True -/
theorem put_a {e : DE} {x : Wd} (h : A.length < 1000000) (he : e (eA nm d A B o4 o5 o6 o7 o8 o9 o10 K P) = .ok (.str (S x))) : sPutD 2 e (eC (.bl true)) (eA nm d A B o4 o5 o6 o7 o8 o9 o10 K P) = .ok (.nx (eA nm d (putW x A) B o4 o5 o6 o7 o8 o9 o10 K P)) := by
  rw [q_putd]
  have e1 : ∀ ρ, putdS 2 e (.bl true) ρ (some (.own (trD A))) = (e ρ).st ρ (putd2 2 (.bl true) (A.map S) (A.map fun _ => .bl true) ρ) := fun ρ => pd_d
  simp -implicitDefEqProofs (disch := (first | assumption | omega | (simp only [ngs]; done) | decide)) only [ev, R.bind_ok, R.bind_ex, R.st_ok, R.st_ex, R.of_some, List.length_map, e1, he, pd_s, trD_put]
theorem put_b {e : DE} {x : Wd} (h : B.length < 1000000) (he : e (eA nm d A B o4 o5 o6 o7 o8 o9 o10 K P) = .ok (.str (S x))) : sPutD 3 e (eC (.bl true)) (eA nm d A B o4 o5 o6 o7 o8 o9 o10 K P) = .ok (.nx (eA nm d A (putW x B) o4 o5 o6 o7 o8 o9 o10 K P)) := by
  rw [q_putd]
  have e1 : ∀ ρ, putdS 3 e (.bl true) ρ (some (.own (trD B))) = (e ρ).st ρ (putd2 3 (.bl true) (B.map S) (B.map fun _ => .bl true) ρ) := fun ρ => pd_d
  simp -implicitDefEqProofs (disch := (first | assumption | omega | (simp only [ngs]; done) | decide)) only [ev, R.bind_ok, R.bind_ex, R.st_ok, R.st_ex, R.of_some, List.length_map, e1, he, pd_s, trD_put]
end
def putsW (xs A : List Wd) : List Wd := xs.foldl (fun A x => putW x A) A
theorem mem_putsW {x : Wd} : ∀ {xs A : List Wd}, x ∈ putsW xs A ↔ x ∈ A ∨ x ∈ xs
  | [], A => by unfold putsW; simp
  | y :: xs, A => by
    show x ∈ putsW xs (putW y A) ↔ _
    rw [mem_putsW, mem_putW, List.mem_cons, or_assoc]
theorem putsW_len : ∀ {xs A : List Wd}, (putsW xs A).length ≤ A.length + xs.length
  | [], A => Nat.le_refl _
  | y :: xs, A => by
    have := putsW_len (xs := xs) (A := putW y A)
    have := putW_len (x := y) (A := A)
    show (putsW xs (putW y A)).length ≤ _
    rw [List.length_cons]
    omega
section
variable {nm : List Wd} {d : D} {o4 o5 o7 o8 o9 o10 : Option Slot} {K P : D}
theorem loop_a (B : List Wd) : ∀ (xs A : List Wd), A.length + xs.length < 1000000 → forL (gVar 6) [6] b_Library_admit_1 (stL xs) (eA nm d A B o4 o5 none o7 o8 o9 o10 K P) = .ok (.nx (eA nm d (putsW xs A) B o4 o5 none o7 o8 o9 o10 K P))
  | [], A, _ => rfl
  | x :: xs, A, h => by
    simp only [List.length_cons] at h
    have ih := loop_a B xs (putW x A) (by have := putW_len (x := x) (A := A); omega)
    have st : b_Library_admit_1 (eA nm d A B o4 o5 (some (.val (.str (S x)))) o7 o8 o9 o10 K P) = .ok (.nx (eA nm d (putW x A) B o4 o5 (some (.val (.str (S x)))) o7 o8 o9 o10 K P)) := put_a (by omega) rfl
    show forL (gVar 6) [6] b_Library_admit_1 (.str (S x) :: stL xs) _ = _
    rw [f_c]
    simp -implicitDefEqProofs (disch := (first | assumption | omega | (simp only [ngs]; done) | decide)) only [ev, R.bind_ok, R.bind_ex, R.st_ok, R.st_ex, R.of_some, List.length_map, st, ih]
    rfl
theorem loop_b (A : List Wd) : ∀ (xs B : List Wd), B.length + xs.length < 1000000 → forL (gVar 6) [6] b_Library_admit_2 (stL xs) (eA nm d A B o4 o5 none o7 o8 o9 o10 K P) = .ok (.nx (eA nm d A (putsW xs B) o4 o5 none o7 o8 o9 o10 K P))
  | [], B, _ => rfl
  | x :: xs, B, h => by
    simp only [List.length_cons] at h
    have ih := loop_b A xs (putW x B) (by have := putW_len (x := x) (A := B); omega)
    have st : b_Library_admit_2 (eA nm d A B o4 o5 (some (.val (.str (S x)))) o7 o8 o9 o10 K P) = .ok (.nx (eA nm d A (putW x B) o4 o5 (some (.val (.str (S x)))) o7 o8 o9 o10 K P)) := put_b (by omega) rfl
    show forL (gVar 6) [6] b_Library_admit_2 (.str (S x) :: stL xs) _ = _
    rw [f_c]
    simp -implicitDefEqProofs (disch := (first | assumption | omega | (simp only [ngs]; done) | decide)) only [ev, R.bind_ok, R.bind_ex, R.st_ok, R.st_ex, R.of_some, List.length_map, st, ih]
    rfl
end
end Tw

set_option maxHeartbeats 2000000
namespace Tw
open PySem
theorem putsW_app (xs ys A : List Wd) : putsW (xs ++ ys) A = putsW ys (putsW xs A) := List.foldl_append
def puA (L : List CL) (bs : List BS) : List Wd := bs.flatMap fun b => b.1 :: abOf L b.1
def puB (L : List CL) (bs : List BS) : List Wd := bs.flatMap fun b => shOf L b.1 ++ (if b.2 then [b.1] else [])
theorem mem_puA {L : List CL} {bs : List BS} {x : Wd} : x ∈ puA L bs ↔ inAb L bs x := by
  unfold puA inAb
  simp only [List.mem_flatMap, List.mem_cons]
theorem mem_puB {L : List CL} {bs : List BS} {x : Wd} : x ∈ puB L bs ↔ inSh L bs x := by
  unfold puB inSh
  simp only [List.mem_flatMap, List.mem_append]
  constructor
  · rintro ⟨b, hb, h⟩
    refine ⟨b, hb, ?_⟩
    rcases h with h | h
    · exact .inr h
    · by_cases e : b.2 = true
      · rw [if_pos e] at h; exact .inl ⟨e, List.mem_singleton.mp h⟩
      · rw [if_neg e] at h; cases h
  · rintro ⟨b, hb, h⟩
    refine ⟨b, hb, ?_⟩
    rcases h with ⟨e, h⟩ | h
    · rw [if_pos e]; exact .inr (List.mem_singleton.mpr h)
    · exact .inl h
/-- small enough -/
def Sm (L : List CL) : Prop := L.length ≤ 100 ∧ ∀ c ∈ L, c.ab.length ≤ 100 ∧ c.sh.length ≤ 100
theorem Sm.ab {L : List CL} (h : Sm L) (x : Wd) : (abOf L x).length ≤ 100 := by
  unfold abOf
  cases e : fnd L x with
  | none => exact Nat.zero_le _
  | some k => exact (h.2 k (List.mem_of_find?_eq_some e)).1
theorem Sm.sh {L : List CL} (h : Sm L) (x : Wd) : (shOf L x).length ≤ 100 := by
  unfold shOf
  cases e : fnd L x with
  | none => exact Nat.zero_le _
  | some k => exact (h.2 k (List.mem_of_find?_eq_some e)).2
section
variable {nm : List Wd} {d : D} {o7 o8 o9 o10 : Option Slot} {L : List CL}
theorem admit_step {b : BS} {A B : List Wd} (hs : Sm L) (hb : b.1 ∈ ttl L) (hA : A.length + 200 < 1000000) (hB : B.length + 200 < 1000000) :
    ∃ k, b_Library_admit_3 (eA nm d A B (some (.val (bD b))) none none o7 o8 o9 o10 (.lst (L.map kiD)) (plD (ttl L))) =
      .ok (.nx (eA nm d (putsW (b.1 :: abOf L b.1) A) (putsW (shOf L b.1 ++ (if b.2 then [b.1] else [])) B) (some (.val (bD b))) (some (.val (kiD k))) none o7 o8 o9 o10 (.lst (L.map kiD)) (plD (ttl L)))) := by
  obtain ⟨k, h1, h2, h3, h4⟩ := fnd_spec hb
  have ea : abOf L b.1 = k.ab := by unfold abOf; rw [h1]
  have es : shOf L b.1 = k.sh := by unfold shOf; rw [h1]
  have hk := hs.2 k h3
  refine ⟨k, ?_⟩
  have n1 : oNotIn (.str (S b.1)) (plD (ttl L)) = some (.bl false) := by
    have := oNotIn_of (oIn_plD b.1 (ttl L))
    rw [decide_eq_true hb] at this
    exact this
  have hix := oIx_plD hb
  have hki : (L.map kiD)[(ttl L).idxOf b.1]? = some (kiD k) := by rw [List.getElem?_map, h4]; rfl
  have l1 := putW_len (x := b.1) (A := A)
  have la := fun o4 o5 => loop_a (nm := nm) (d := d) (o4 := o4) (o5 := o5) (o7 := o7) (o8 := o8) (o9 := o9) (o10 := o10) (K := .lst (L.map kiD)) (P := plD (ttl L)) B k.ab (putW b.1 A) (by omega)
  have lb := fun o4 o5 => loop_b (nm := nm) (d := d) (o4 := o4) (o5 := o5) (o7 := o7) (o8 := o8) (o9 := o9) (o10 := o10) (K := .lst (L.map kiD)) (P := plD (ttl L)) (putsW k.ab (putW b.1 A)) k.sh B (by omega)
  have l2 := putsW_len (xs := k.sh) (A := B)
  have p1 : sPutD 2 (e1 (oFld "title") (eVar 4)) (eC (.bl true)) (eA nm d A B (some (.val (bD b))) (some (.val (kiD k))) none o7 o8 o9 o10 (.lst (L.map kiD)) (plD (ttl L))) = .ok (.nx (eA nm d (putW b.1 A) B (some (.val (bD b))) (some (.val (kiD k))) none o7 o8 o9 o10 (.lst (L.map kiD)) (plD (ttl L)))) :=
    put_a (by omega) (by simp -implicitDefEqProofs (disch := (first | assumption | omega | (simp only [ngs]; done) | decide)) only [ev, R.bind_ok, R.bind_ex, R.st_ok, R.st_ex, R.of_some, List.length_map, bD_title])
  have p2 : sPutD 3 (e1 (oFld "title") (eVar 4)) (eC (.bl true)) (eA nm d (putsW k.ab (putW b.1 A)) (putsW k.sh B) (some (.val (bD b))) (some (.val (kiD k))) none o7 o8 o9 o10 (.lst (L.map kiD)) (plD (ttl L))) = .ok (.nx (eA nm d (putsW k.ab (putW b.1 A)) (putW b.1 (putsW k.sh B)) (some (.val (bD b))) (some (.val (kiD k))) none o7 o8 o9 o10 (.lst (L.map kiD)) (plD (ttl L)))) :=
    put_b (by omega) (by simp -implicitDefEqProofs (disch := (first | assumption | omega | (simp only [ngs]; done) | decide)) only [ev, R.bind_ok, R.bind_ex, R.st_ok, R.st_ex, R.of_some, List.length_map, bD_title])
  unfold b_Library_admit_3
  rw [ea, es]
  cases hb2 : b.2 with
  | true =>
    simp -implicitDefEqProofs (disch := (first | assumption | omega | (simp only [ngs]; done) | decide)) only [ev, R.bind_ok, R.bind_ex, R.st_ok, R.st_ex, R.of_some, List.length_map, bD_title, bD_sh, s_places, s_kinds, n1, hix, hki, p1, p2, ki_a, ki_sh, la, lb, hb2]
    rw [if_pos trivial, putsW_app]
    rfl
  | false =>
    simp -implicitDefEqProofs (disch := (first | assumption | omega | (simp only [ngs]; done) | decide)) only [ev, R.bind_ok, R.bind_ex, R.st_ok, R.st_ex, R.of_some, List.length_map, bD_title, bD_sh, s_places, s_kinds, n1, hix, hki, p1, ki_a, ki_sh, la, lb, hb2]
    rw [if_neg (by decide), List.append_nil]
    rfl
theorem admit_loop (hs : Sm L) : ∀ (bs : List BS) (A B : List Wd), (∀ b ∈ bs, b.1 ∈ ttl L) → A.length + bs.length * 200 + 200 < 1000000 → B.length + bs.length * 200 + 200 < 1000000 →
    forL (gVar 4) [4, 5, 6] b_Library_admit_3 (bs.map bD) (eA nm d A B none none none o7 o8 o9 o10 (.lst (L.map kiD)) (plD (ttl L))) =
      .ok (.nx (eA nm d (putsW (puA L bs) A) (putsW (puB L bs) B) none none none o7 o8 o9 o10 (.lst (L.map kiD)) (plD (ttl L))))
  | [], A, B, _, _, _ => rfl
  | b :: bs, A, B, hb, hA, hB => by
    simp only [List.length_cons] at hA hB
    obtain ⟨k, st⟩ := admit_step (nm := nm) (d := d) (o7 := o7) (o8 := o8) (o9 := o9) (o10 := o10) (A := A) (B := B) hs (hb b List.mem_cons_self) (by omega) (by omega)
    have la := hs.ab b.1
    have lb := hs.sh b.1
    have l1 := putsW_len (xs := b.1 :: abOf L b.1) (A := A)
    have l2 := putsW_len (xs := shOf L b.1 ++ (if b.2 then [b.1] else [])) (A := B)
    have l3 : (if b.2 then [b.1] else []).length ≤ 1 := by split <;> simp
    rw [List.length_append] at l2
    rw [List.length_cons] at l1
    have ih := admit_loop hs bs (putsW (b.1 :: abOf L b.1) A) (putsW (shOf L b.1 ++ (if b.2 then [b.1] else [])) B) (fun x hx => hb x (List.mem_cons_of_mem _ hx)) (by omega) (by omega)
    rw [List.map_cons, f_c]
    simp -implicitDefEqProofs (disch := (first | assumption | omega | (simp only [ngs]; done) | decide)) only [ev, R.bind_ok, R.bind_ex, R.st_ok, R.st_ex, R.of_some, List.length_map, st, ih]
    unfold puA puB
    rw [List.flatMap_cons, List.flatMap_cons, putsW_app (b.1 :: abOf L b.1), putsW_app (shOf L b.1 ++ (if b.2 then [b.1] else []))]
end
section
variable {d : D} {o2 o3 o4 o5 o6 o7 o8 o9 : Option Slot} {K P : D}
theorem put_names (nm nm' : List Wd) : putF "names" (.tup (stL nm')) (libS nm) = some (libS nm') := by
  unfold libS
  rw [putF_ok (by decide) (by decide +kernel)]
  have k1 : putDk (Str.ofString "names") [Str.ofString "kinds", Str.ofString "places", Str.ofString "names"] = [Str.ofString "kinds", Str.ofString "places", Str.ofString "names"] := by decide +kernel
  rw [k1]
  have n1 : Str.ofString "names" ≠ Str.ofString "kinds" := by decide +kernel
  have n2 : Str.ofString "names" ≠ Str.ofString "places" := by decide +kernel
  simp only [putDv, if_neg n1, if_neg n2, if_true]
theorem loop_names : ∀ (xs nm : List Wd), nm.length + xs.length < 1000000 →
    forL (gVar 10) [10] b_Library_admit_4 (stL xs) [some (.slf (libS nm)), some (.val d), o2, o3, o4, o5, o6, o7, o8, o9, none, none, some (.gho K), some (.gho P)] =
      .ok (.nx [some (.slf (libS (nmAdd nm xs))), some (.val d), o2, o3, o4, o5, o6, o7, o8, o9, none, none, some (.gho K), some (.gho P)])
  | [], nm, _ => rfl
  | x :: xs, nm, h => by
    simp only [List.length_cons] at h
    have hw := putW_len (x := x) (A := nm)
    have ih := loop_names xs (putW x nm) (by omega)
    have n1 := oNotIn_of (oIn_tup x nm)
    have st : b_Library_admit_4 [some (.slf (libS nm)), some (.val d), o2, o3, o4, o5, o6, o7, o8, o9, some (.val (.str (S x))), none, some (.gho K), some (.gho P)] =
        .ok (.nx [some (.slf (libS (putW x nm))), some (.val d), o2, o3, o4, o5, o6, o7, o8, o9, some (.val (.str (S x))), none, some (.gho K), some (.gho P)]) := by
      unfold b_Library_admit_4 putW
      by_cases hx : x ∈ nm
      · rw [decide_eq_true hx] at n1
        rw [if_pos hx]
        simp -implicitDefEqProofs (disch := (first | assumption | omega | (simp only [ngs]; done) | decide)) only [ev, R.bind_ok, R.bind_ex, R.st_ok, R.st_ex, R.of_some, List.length_map, s_names, n1]
      · rw [decide_eq_false hx] at n1
        rw [if_neg hx]
        have l1 : (stL nm).length = nm.length := stL_len nm
        have l2 : (stL nm).length + [D.str (S x)].length ≤ 1000000 := by rw [l1, List.length_singleton]; omega
        have e2 : stL nm ++ [.str (S x)] = stL (nm ++ [x]) := by rw [stL_app]; rfl
        simp -implicitDefEqProofs (disch := (first | assumption | omega | (simp only [ngs]; done) | decide)) only [ev, R.bind_ok, R.bind_ex, R.st_ok, R.st_ex, R.of_some, List.length_map, s_names, n1, e2, put_names]
    show forL (gVar 10) [10] b_Library_admit_4 (.str (S x) :: stL xs) _ = _
    rw [f_c]
    simp -implicitDefEqProofs (disch := (first | assumption | omega | (simp only [ngs]; done) | decide)) only [ev, R.bind_ok, R.bind_ex, R.st_ok, R.st_ex, R.of_some, List.length_map, st, ih]
    rfl
end
end Tw

set_option maxHeartbeats 2000000
namespace Tw
open PySem
section
variable {α : Type} {g : DG} {p : DT} {e : DE} {ρ : DEnv} {vs : List Nat}
end
theorem okif {α : Type} {c : Prop} [Decidable c] {x y : α} : (if c then R.ok x else R.ok y) = R.ok (if c then x else y) := by split <;> rfl
section
variable {i j : Nat} {f : Str} {k e : DE} {ρ : DEnv} {v : D} {ks : List Str} {vs l : List D}
def gappS (e : DE) (ρ : DEnv) (o : Option (Nat × D)) : R Out := match o with
  | some (j, .lst l) => (e ρ).st ρ fun y => if l.length < lineD then .ok (.nx (ρ.set j (some (.gho (.lst (l ++ [y])))))) else .no
  | _ => .no
theorem q_gapp : sGApp i f e ρ = gappS e ρ (fldG i f ρ) := by
  unfold sGApp gappS
  cases fldG i f ρ with
  | none => rfl
  | some p => cases p with | mk j d => cases d <;> rfl
theorem gapp_l : gappS e ρ (some (j, .lst l)) = (e ρ).st ρ fun y => ltS l.length (.ok (.nx (ρ.set j (some (.gho (.lst (l ++ [y]))))))) := rfl
def gputS (k : DE) (v : D) (ρ : DEnv) (o : Option (Nat × D)) : R Out := match o with
  | some (j, .dct ks vs) => (k ρ).st ρ fun x => match x with
    | .str s => if ks.length < lineD then .ok (.nx (ρ.set j (some (.gho (.dct (dPutK s ks) (dPutV s v ks vs)))))) else .no
    | _ => .no
  | _ => .no
theorem q_gput : sGPut i f k e ρ = (e ρ).st ρ fun v => gputS k v ρ (fldG i f ρ) := by
  unfold sGPut gputS
  congr 1
def gput2 (j : Nat) (v : D) (ks : List Str) (vs : List D) (ρ : DEnv) (x : D) : R Out := match x with
  | .str s => ltS ks.length (.ok (.nx (ρ.set j (some (.gho (.dct (dPutK s ks) (dPutV s v ks vs)))))))
  | _ => .no
theorem gput_d : gputS k v ρ (some (j, .dct ks vs)) = (k ρ).st ρ (gput2 j v ks vs ρ) := by
  show R.st _ _ _ = R.st _ _ _
  congr 1
theorem gput_s {s : Str} : gput2 j v ks vs ρ (.str s) = ltS ks.length (.ok (.nx (ρ.set j (some (.gho (.dct (dPutK s ks) (dPutV s v ks vs))))))) := rfl
theorem q_ilst : iLst e ρ = (e ρ).bind fun x => match x with | .lst l => .ok l | _ => .no := rfl
end
theorem admit_ok {L : List CL} {nm : List Wd} {d : D} {r : Dr} (hs : Sm L) (h : AdOk L r) (hd : DLike d r) (hn : nm.length ≤ 100000) (hb : r.bs.length ≤ 100) :
    d_Library_admit (libS nm) (.lst (L.map kiD)) (plD (ttl L)) [d] = .ok (.non, libS (nmAdd nm (r.ns ++ r.ss)), .lst ((L ++ [mkCL L r]).map kiD), plD (ttl (L ++ [mkCL L r]))) := by
  rw [e_Library_admit _ _ _ _ rfl]
  simp only [List.cons_append, List.nil_append]
  have c1 := oIn_plD r.t (ttl L)
  rw [decide_eq_false h.new] at c1
  have lp := admit_loop (nm := nm) (d := d) (o7 := none) (o8 := none) (o9 := none) (o10 := none) hs r.bs [] [] h.bs (by simp; omega) (by simp; omega)
  have lA : (putsW (puA L r.bs) []) = putsW (puA L r.bs) [] := rfl
  generalize hA : putsW (puA L r.bs) [] = A at lp
  generalize hB : putsW (puB L r.bs) [] = B at lp
  have mA : ∀ x, x ∈ A ↔ inAb L r.bs x := fun x => by rw [← hA, mem_putsW, mem_puA]; simp
  have mB : ∀ x, x ∈ B ↔ inSh L r.bs x := fun x => by rw [← hB, mem_putsW, mem_puB]; simp
  have hlen := hs.1
  have ht : (ttl L).length = L.length := by unfold ttl; rw [List.length_map]
  have cmp1 : ∀ o4 o6 o7 o8 o9 o10 : Option Slot, ∀ P, compS (gVar 5) tYesD (e1 (oFld "title") (eVar 5)) [5] (eA nm d A B o4 none o6 o7 o8 o9 o10 (.lst (L.map kiD)) P) (L.map kiD) = .ok (.lst (stL (ttl L))) := by
    intro o4 o6 o7 o8 o9 o10 P
    rw [comp_map kiD (fun c => .str (S c.r.t)) (by omega) rfl (fun c hc => by
      unfold cStep
      simp -implicitDefEqProofs (disch := (first | assumption | omega | (simp only [ngs]; done) | decide)) only [ev, R.bind_ok, R.bind_ex, R.st_ok, R.st_ex, R.of_some, List.length_map, ki_t, if_true])]
    unfold stL ttl
    rw [List.map_map]
    rfl
  have cmp2 : ∀ o4 o5 o7 o8 o9 o10 : Option Slot, ∀ K P, compS (gVar 6) (tVal (e2 oIn (eVar 6) (eLook 2))) (eVar 6) [6] (eA nm d A B o4 o5 none o7 o8 o9 o10 K P) (stL (ttl L)) = .ok (.lst (stL ((ttl L).filter fun x => decide (inAb L r.bs x)))) := by
    intro o4 o5 o7 o8 o9 o10 K P
    unfold stL
    rw [comp_filter (fun w => .str (S w)) (fun w => .str (S w)) (fun x => decide (inAb L r.bs x)) (by omega) rfl (fun x hx => by
      have m := oIn_trD x A
      have : decide (x ∈ A) = decide (inAb L r.bs x) := by rw [decide_eq_decide]; exact mA x
      rw [this] at m
      unfold cStep
      simp -implicitDefEqProofs (disch := (first | assumption | omega | (simp only [ngs]; done) | decide)) only [ev, R.bind_ok, R.bind_ex, R.st_ok, R.st_ex, R.of_some, List.length_map, m, okif])]
  have cmp3 : ∀ o4 o5 o7 o8 o9 o10 : Option Slot, ∀ K P, compS (gVar 6) (tVal (e2 oIn (eVar 6) (eLook 3))) (eVar 6) [6] (eA nm d A B o4 o5 none o7 o8 o9 o10 K P) (stL (ttl L)) = .ok (.lst (stL ((ttl L).filter fun x => decide (inSh L r.bs x)))) := by
    intro o4 o5 o7 o8 o9 o10 K P
    unfold stL
    rw [comp_filter (fun w => .str (S w)) (fun w => .str (S w)) (fun x => decide (inSh L r.bs x)) (by omega) rfl (fun x hx => by
      have m := oIn_trD x B
      have : decide (x ∈ B) = decide (inSh L r.bs x) := by rw [decide_eq_decide]; exact mB x
      rw [this] at m
      unfold cStep
      simp -implicitDefEqProofs (disch := (first | assumption | omega | (simp only [ngs]; done) | decide)) only [ev, R.bind_ok, R.bind_ex, R.st_ok, R.st_ex, R.of_some, List.length_map, m, okif])]
  have mk := mkki_ok (c := mkCL L r) h.ok hd
  have mk : mkD "Kind" d_Kind_init [d, .tup (stL ((ttl L).filter fun x => decide (inAb L r.bs x))), .tup (stL ((ttl L).filter fun x => decide (inSh L r.bs x)))] = .ok (kiD (mkCL L r)) := mk
  have lp2 := fun o2 o3 o4 o5 o6 o7 o8 o9 K P => loop_names (d := d) (o2 := o2) (o3 := o3) (o4 := o4) (o5 := o5) (o6 := o6) (o7 := o7) (o8 := o8) (o9 := o9) (K := K) (P := P) (r.ns ++ r.ss) nm (by have := h.ok.nl; omega)
  have hnl := h.ok.nl
  rw [List.length_append] at hnl
  have l1 : (stL r.ns).length + (stL r.ss).length ≤ 1000000 := by rw [stL_len, stL_len]; omega
  have e2 : stL r.ns ++ stL r.ss = stL (r.ns ++ r.ss) := (stL_app _ _).symm
  have pp := plD_put (x := r.t) (ts := ttl L) h.new
  rw [ht] at pp
  have l3 : (ttl L).length < 1000000 := by omega
  have l4 : L.length < 1000000 := by omega
  have t2 : ttl (L ++ [mkCL L r]) = ttl L ++ [r.t] := by unfold ttl; rw [List.map_append]; rfl
  have k2 : (L ++ [mkCL L r]).map kiD = L.map kiD ++ [kiD (mkCL L r)] := by rw [List.map_append]; rfl
  have pe : ∀ ρ (k : DE) (v : D) (j : Nat), gputS k v ρ (some (j, plD (ttl L))) = (k ρ).st ρ (gput2 j v ((ttl L).map S) ((List.range (ttl L).length).map fun i : Nat => .int i) ρ) := fun ρ k v j => gput_d
  rw [t2, k2]
  unfold b_Library_admit
  have tA : D.dct [] [] = trD [] := rfl
  simp -implicitDefEqProofs (disch := (first | assumption | omega | (simp only [ngs]; done) | decide)) only [ev, R.bind_ok, R.bind_ex, R.st_ok, R.st_ex, R.of_some, List.length_map, hd.t, hd.n, hd.s, hd.b, s_places, s_kinds, c1, tA, lp, cmp1, cmp2, cmp3, q_gput, q_gapp, f_places, f_kinds, pe, gput_s, gapp_l, q_ilst, pp, ht, mk, e2, lp2, outG]
  rfl
def grow : List CL → List Dr → List CL
  | L, [] => L
  | L, r :: rs => grow (L ++ [mkCL L r]) rs
def growN : List Wd → List Dr → List Wd
  | nm, [] => nm
  | nm, r :: rs => growN (nmAdd nm (r.ns ++ r.ss)) rs
inductive AdOks : List CL → List Dr → Prop
  | nil {L : List CL} : AdOks L []
  | cons {L : List CL} {r : Dr} {rs : List Dr} : AdOk L r → r.bs.length ≤ 100 → (r.ns ++ r.ss).length ≤ 100 → AdOks (L ++ [mkCL L r]) rs → AdOks L (r :: rs)
theorem Sm.snoc {L : List CL} {r : Dr} (h : Sm L) (hl : L.length < 100) : Sm (L ++ [mkCL L r]) := by
  have ht : (ttl L).length = L.length := by unfold ttl; rw [List.length_map]
  refine ⟨by rw [List.length_append, List.length_singleton]; omega, fun c hc => ?_⟩
  rcases List.mem_append.mp hc with hc | hc
  · exact h.2 c hc
  · rw [List.mem_singleton.mp hc]
    have l1 := List.length_filter_le (fun x => decide (inAb L r.bs x)) (ttl L)
    have l2 := List.length_filter_le (fun x => decide (inSh L r.bs x)) (ttl L)
    exact ⟨by show ((ttl L).filter fun x => decide (inAb L r.bs x)).length ≤ 100; omega, by show ((ttl L).filter fun x => decide (inSh L r.bs x)).length ≤ 100; omega⟩
theorem nmAdd_len (nm ws : List Wd) : (nmAdd nm ws).length ≤ nm.length + ws.length := putsW_len (xs := ws) (A := nm)
/-- the drafts rs, as they are given -/
inductive DLs : List D → List Dr → Prop
  | nil : DLs [] []
  | cons {d : D} {r : Dr} {ds : List D} {rs : List Dr} : DLike d r → d = d → DLs ds rs → DLs (d :: ds) (r :: rs)
theorem gnew_s {i j : Nat} {f : Str} {e : DE} {ρ : DEnv} {s s' d : D} (he : e ρ = .ok d) (hi : ρ[i]? = some (some (.slf s))) (hj : ρ[j]? = some none) (hp : putF f (.gst j) s = some s') : sGNew i f j e ρ = .ok (.nx ((ρ.set j (some (.gho d))).set i (some (.slf s')))) := by
  unfold sGNew; rw [he]; simp only [R.st_ok, hi, hj, hp]
theorem gcallC_s {c : String} {i : Nat} {f : GD} {as : DA} {ρ : DEnv} {ks : List Str} {l xs : List D} {a b : D} {r : D × D × D × D} (h1 : as ρ = .ok xs) (hi : ρ[i]? = some (some (.slf (.obj c ks l)))) (ha : ρ[(12 : Nat)]? = some (some (.gho a))) (hb : ρ[(13 : Nat)]? = some (some (.gho b))) (hg : okG (.obj c ks l) = true) (hf : f (.obj c ks l) a b xs = .ok r) : sGCallC c i f as ρ = .ok (.nx (((ρ.set 12 (some (.gho r.2.2.1))).set 13 (some (.gho r.2.2.2))).set i (some (.slf r.2.1)))) := by
  unfold sGCallC sGCall; simp only [hi, h1, R.st_ok, ha, hb, hg, hf, if_true]
theorem lib_loop {dd : D} : ∀ {ds : List D} {rs : List Dr} {L : List CL} {nm : List Wd}, DLs ds rs → AdOks L rs → Sm L → L.length + rs.length ≤ 100 → nm.length + rs.length * 100 ≤ 50000 →
    forL (gVar 2) [2] b_Library_init_1 ds [some (.slf (libS nm)), some (.val dd), none, none, none, none, none, none, none, none, none, none, some (.gho (.lst (L.map kiD))), some (.gho (plD (ttl L)))] =
      .ok (.nx [some (.slf (libS (growN nm rs))), some (.val dd), none, none, none, none, none, none, none, none, none, none, some (.gho (.lst ((grow L rs).map kiD))), some (.gho (plD (ttl (grow L rs))))])
  | _, _, L, nm, .nil, _, _, _, _ => rfl
  | _, _, L, nm, .cons (d := d) (r := r) (ds := ds) (rs := rs) hd _ hds, .cons h1 h2 h3 h4, hs, hl, hn => by
    simp only [List.length_cons] at hl hn
    have l3 := nmAdd_len nm (r.ns ++ r.ss)
    have ih := lib_loop (dd := dd) (nm := nmAdd nm (r.ns ++ r.ss)) hds h4 (hs.snoc (by omega)) (by rw [List.length_append, List.length_singleton]; omega) (by omega)
    have ad := admit_ok hs h1 hd (nm := nm) (by omega) h2
    have st : b_Library_init_1 [some (.slf (libS nm)), some (.val dd), some (.val d), none, none, none, none, none, none, none, none, none, some (.gho (.lst (L.map kiD))), some (.gho (plD (ttl L)))] =
        .ok (.nx [some (.slf (libS (nmAdd nm (r.ns ++ r.ss)))), some (.val dd), some (.val d), none, none, none, none, none, none, none, none, none, some (.gho (.lst ((L ++ [mkCL L r]).map kiD))), some (.gho (plD (ttl (L ++ [mkCL L r]))))]) := by
      exact gcallC_s (c := "Library") (i := 0) (f := d_Library_admit) (as := aCons (eVar 2) aNil) rfl rfl rfl rfl rfl ad
    rw [f_c]
    simp -implicitDefEqProofs (disch := (first | assumption | omega | (simp only [ngs]; done) | decide)) only [ev, R.bind_ok, R.bind_ex, R.st_ok, R.st_ex, R.of_some, List.length_map, st, ih]
    rfl
theorem libInit_ok {dd : D} {ds : List D} {rs : List Dr} (hi : iterD dd = some ds) (hd : DLs ds rs) (h : AdOks [] rs) (hl : rs.length ≤ 100) : mkD "Library" d_Library_init [dd] = .ok (liD (grow [] rs) (growN [] rs)) := by
  have lp := lib_loop (dd := dd) (nm := []) hd h ⟨Nat.zero_le _, fun c hc => by cases hc⟩ (by simpa using hl) (by simp; omega)
  have k1 : putF "kinds" (.gst 12) (.obj "Library" [] []) = some (.obj "Library" ["kinds"] [.gst 12]) := put0 (by decide +kernel)
  have k2 : putF "places" (.gst 13) (.obj "Library" ["kinds"] [.gst 12]) = some (.obj "Library" ["kinds", "places"] [.gst 12, .gst 13]) := put1 (by decide +kernel) (by decide +kernel)
  have k3 : putF "names" (.tup []) (.obj "Library" ["kinds", "places"] [.gst 12, .gst 13]) = some (libS []) := put2 (by decide +kernel) (by decide +kernel)
  rw [q_mkd, e_Library_init]
  have g1 : sGNew 0 "kinds" 12 (eLst aNil) [some (.slf (.obj "Library" [] [])), some (.val dd), none, none, none, none, none, none, none, none, none, none, none, none] = .ok (.nx [some (.slf (.obj "Library" ["kinds"] [.gst 12])), some (.val dd), none, none, none, none, none, none, none, none, none, none, some (.gho (.lst [])), none]) := by
    exact gnew_s rfl rfl rfl k1
  have g2 : sGNew 0 "places" 13 (eC (.dct [] [])) [some (.slf (.obj "Library" ["kinds"] [.gst 12])), some (.val dd), none, none, none, none, none, none, none, none, none, none, some (.gho (.lst [])), none] = .ok (.nx [some (.slf (.obj "Library" ["kinds", "places"] [.gst 12, .gst 13])), some (.val dd), none, none, none, none, none, none, none, none, none, none, some (.gho (.lst [])), some (.gho (.dct [] []))]) := by
    exact gnew_s rfl rfl rfl k2
  unfold b_Library_init
  have hk0 : ([] : List CL).map kiD = [] := rfl
  have hp0 : D.dct [] [] = plD (ttl []) := rfl
  rw [hk0] at lp
  simp -implicitDefEqProofs (disch := (first | assumption | omega | (simp only [ngs]; done) | decide)) only [ev, R.bind_ok, R.bind_ex, R.st_ok, R.st_ex, R.of_some, List.length_map, g1, g2, k3, hi]
  rw [hp0]
  simp -implicitDefEqProofs (disch := (first | assumption | omega | (simp only [ngs]; done) | decide)) only [ev, R.bind_ok, R.bind_ex, R.st_ok, R.st_ex, R.of_some, List.length_map, lp]
  rfl
end Tw

set_option maxHeartbeats 2000000
namespace Tw
open PySem
abbrev Lnk := Nat × Bool
structure Pn where
  ls : List Lnk
  ms : List Int
def bI (b : Bool) : Int := if b then 1 else 0
def lkD (l : Lnk) : D := .lst [.int l.1, .int (bI l.2)]
def pnD (p : Pn) : D := .lst [.lst (p.ls.map lkD), .lst (p.ms.map .int)]
def plnD (P : List Pn) : D := .lst (P.map pnD)
structure PnOk (j m : Nat) (p : Pn) : Prop where
  lt : ∀ l ∈ p.ls, l.1 < j
  nd : (p.ls.map Prod.fst).Nodup
  ml : p.ms.length = m
  mb : ∀ x ∈ p.ms, x = 0 ∨ x = 1 ∨ x = 2
def PlanOk (m : Nat) (P : List Pn) : Prop := ∀ j p, P[j]? = some p → PnOk j m p
theorem PlanOk.nil {m : Nat} : PlanOk m [] := fun j p h => by simp at h
theorem PlanOk.snoc {m : Nat} {P : List Pn} {p : Pn} (h : PlanOk m P) (k : PnOk P.length m p) : PlanOk m (P ++ [p]) := fun j q e => by
  by_cases hj : j < P.length
  · rw [List.getElem?_append_left hj] at e; exact h j q e
  · rw [List.getElem?_append_right (by omega)] at e
    have : j - P.length = 0 := by
      rcases Nat.eq_zero_or_pos (j - P.length) with h0 | h0
      · exact h0
      · rw [List.getElem?_eq_none (by simp; omega)] at e; cases e
    rw [this] at e
    have e : p = q := by simpa using e
    have hj : j = P.length := by omega
    subst e; subst hj
    exact k
theorem at_eq {α : Type} {l : List α} {i : Int} {n : Nat} {x : α} (h : l[n]? = some x) (e : i = n) : atD l i = some x := by
  subst e; rw [p_atn]; exact h
theorem mapG {α : Type} {f : α → D} {l : List α} {n : Nat} {x : α} (h : l[n]? = some x) : (l.map f)[n]? = some (f x) := by rw [List.getElem?_map, h]; rfl
def lkOf (row : List Int) (k : Nat) : Option Lnk := if 2 ≤ row.getD k 0 then some (k, decide (row.getD k 0 = 3)) else none
theorem getD_some {l : List Int} {k : Nat} (h : k < l.length) : l[k]? = some (l.getD k 0) := by
  rw [List.getD_eq_getElem?_getD, List.getElem?_eq_getElem h]; rfl
def m5 (r : Int) : Int := ([0, 0, 0, 1, 2] : List Int).getD r.toNat 0
theorem mul_lst {x : Int} {j : Nat} (h : j ≤ 1000) : oMul (.lst [.int x]) (.int j) = some (.lst ((List.replicate j x).map .int)) := by
  have g : -(2 ^ 63) ≤ (j : Int) ∧ (j : Int) < 2 ^ 63 ∧ [D.int x].length * (j : Int).toNat ≤ lineD := ⟨by omega, by omega, by
    rw [Int.toNat_natCast, List.length_singleton, Nat.one_mul]; exact Nat.le_trans h (by decide)⟩
  unfold oMul
  simp only [if_pos g, Int.toNat_natCast]
  rw [List.length_singleton, Nat.one_mul] at g ⊢
  rw [Int.toNat_natCast] at g
  rw [if_pos g]
  clear g h
  refine congrArg (fun x => some (D.lst x)) ?_
  induction j with
  | zero => rfl
  | succ n ih => rw [List.replicate_succ, List.flatten_cons, ih, List.replicate_succ]; rfl
end Tw

set_option maxHeartbeats 2000000
namespace Tw
open PySem
theorem nodup_map_of {α β : Type} {f : α → β} : ∀ {l : List α}, (∀ a ∈ l, ∀ b ∈ l, f a = f b → a = b) → l.Nodup → (l.map f).Nodup
  | [], _, _ => List.nodup_nil
  | a :: l, h, n => by
    rw [List.map_cons]
    obtain ⟨n1, n2⟩ := List.nodup_cons.mp n
    refine List.nodup_cons.mpr ⟨fun z => ?_, nodup_map_of (fun x hx y hy => h x (List.mem_cons_of_mem _ hx) y (List.mem_cons_of_mem _ hy)) n2⟩
    obtain ⟨b, hb, e⟩ := List.mem_map.mp z
    exact n1 (h b (List.mem_cons_of_mem _ hb) a List.mem_cons_self e ▸ hb)
/-- words that differ -/
structure Wds (ws : List Wd) : Prop where
  w : ∀ w ∈ ws, isW w = true
  nd : ws.Nodup
  l : ws.length ≤ 100
theorem Wds.nil : Wds [] := ⟨fun _ h => (by cases h), List.nodup_nil, Nat.zero_le _⟩
theorem wgetD {ws : List Wd} {k : Nat} (h : k < ws.length) : ws[k]? = some (ws.getD k []) := by
  rw [List.getD_eq_getElem?_getD, List.getElem?_eq_getElem h]; rfl
theorem wmem {ws : List Wd} {k : Nat} (h : k < ws.length) : ws.getD k [] ∈ ws := List.mem_of_getElem? (wgetD h)
theorem winj {ws : List Wd} (n : ws.Nodup) {i j : Nat} (hi : i < ws.length) (hj : j < ws.length) (e : ws.getD i [] = ws.getD j []) : i = j := by
  have e1 := wgetD hi
  rw [e, ← wgetD hj] at e1
  exact (List.getElem?_inj hj n).mp e1.symm |>.symm
theorem stL_at {ws : List Wd} {k : Nat} (h : k < ws.length) : (stL ws)[k]? = some (.str (S (ws.getD k []))) := by
  unfold stL; rw [List.getElem?_map, wgetD h]; rfl
def pick (lb : List Wd) (ms : List Int) (v : Int) : List Wd := ((List.range lb.length).filter fun m => decide (ms.getD m 0 = v)).map fun m => lb.getD m []
def prDr (ws lb : List Wd) (j : Nat) (p : Pn) : Dr := ⟨ws.getD j [], pick lb p.ms 1, pick lb p.ms 2, p.ls.map fun l => (ws.getD l.1 [], l.2)⟩
theorem pick_mem {lb : List Wd} {ms : List Int} {v : Int} {w : Wd} (h : w ∈ pick lb ms v) : w ∈ lb := by
  obtain ⟨m, hm, rfl⟩ := List.mem_map.mp h
  exact wmem (List.mem_range.mp (List.mem_filter.mp hm).1)
theorem pick_len (lb : List Wd) (ms : List Int) (v : Int) : (pick lb ms v).length ≤ lb.length := by
  unfold pick
  rw [List.length_map]
  have := List.length_filter_le (fun m => decide (ms.getD m 0 = v)) (List.range lb.length)
  rwa [List.length_range] at this
theorem pick_nd {lb : List Wd} {ms : List Int} (h : lb.Nodup) : (pick lb ms 1 ++ pick lb ms 2).Nodup := by
  unfold pick
  rw [← List.map_append]
  have R : ∀ v m, m ∈ (List.range lb.length).filter (fun m => decide (ms.getD m 0 = v)) → m < lb.length ∧ ms.getD m 0 = v := fun v m hm => ⟨List.mem_range.mp (List.mem_filter.mp hm).1, of_decide_eq_true (List.mem_filter.mp hm).2⟩
  refine nodup_map_of (fun a ha b hb e => ?_) ?_
  · have la : a < lb.length := (List.mem_append.mp ha).elim (fun z => (R _ _ z).1) fun z => (R _ _ z).1
    have lb' : b < lb.length := (List.mem_append.mp hb).elim (fun z => (R _ _ z).1) fun z => (R _ _ z).1
    exact winj h la lb' e
  · refine List.nodup_append.mpr ⟨List.nodup_range.filter _, List.nodup_range.filter _, fun a ha b hb e => ?_⟩
    subst e
    have h1 := (R _ _ ha).2
    rw [(R _ _ hb).2] at h1
    cases h1
theorem nd_len {α : Type} [BEq α] [LawfulBEq α] : ∀ {l m : List α}, l.Nodup → (∀ x ∈ l, x ∈ m) → l.length ≤ m.length
  | [], m, _, _ => Nat.zero_le _
  | a :: l, m, h, hs => by
    obtain ⟨h1, h2⟩ := List.nodup_cons.mp h
    have ha := hs a List.mem_cons_self
    have ih := nd_len (l := l) (m := m.erase a) h2 fun x hx => by
      have hne : x ≠ a := fun e => h1 (e ▸ hx)
      exact (List.mem_erase_of_ne hne).mpr (hs x (List.mem_cons_of_mem _ hx))
    have hl := List.length_erase_of_mem ha
    have hp := List.length_pos_of_mem ha
    rw [List.length_cons]
    omega
theorem PnOk.len {j m : Nat} {p : Pn} (h : PnOk j m p) : p.ls.length ≤ j := by
  have := nd_len (m := List.range j) h.nd fun x hx => by
    obtain ⟨l, hl, rfl⟩ := List.mem_map.mp hx
    exact List.mem_range.mpr (h.lt l hl)
  simpa using this
theorem prDr_ok {ws lb : List Wd} {j m : Nat} {p : Pn} (hw : Wds ws) (hb : Wds lb) (hj : j < ws.length) (hp : PnOk j m p) : DrOk (prDr ws lb j p) := by
  have hl := hp.len
  have h1 := pick_len lb p.ms 1
  have h2 := pick_len lb p.ms 2
  have h3 := hb.l
  have h4 := hw.l
  refine ⟨hw.w _ (wmem hj), fun w hm => ?_, pick_nd hb.nd, ?_, ?_, fun b hm => ?_, ?_⟩
  · exact (List.mem_append.mp hm).elim (fun z => hb.w _ (pick_mem z)) fun z => hb.w _ (pick_mem z)
  · show (pick lb p.ms 1 ++ pick lb p.ms 2).length < 1000
    rw [List.length_append]; omega
  · show ((p.ls.map fun l => (ws.getD l.1 [], l.2)).map Prod.fst).Nodup
    rw [List.map_map, show (Prod.fst ∘ fun l : Lnk => (ws.getD l.1 [], l.2)) = (fun k => ws.getD k []) ∘ Prod.fst from rfl, ← List.map_map]
    refine nodup_map_of (fun a ha b hb e => ?_) hp.nd
    obtain ⟨x, hx, rfl⟩ := List.mem_map.mp ha
    obtain ⟨y, hy, rfl⟩ := List.mem_map.mp hb
    have := hp.lt x hx
    have := hp.lt y hy
    exact winj hw.nd (by omega) (by omega) e
  · obtain ⟨l, hl, rfl⟩ := List.mem_map.mp hm
    have := hp.lt l hl
    exact hw.w _ (wmem (by omega))
  · show (p.ls.map fun l => (ws.getD l.1 [], l.2)).length < 1000
    rw [List.length_map]; omega
theorem pn_0 {p : Pn} : oIx (pnD p) (.int 0) = some (.lst (p.ls.map lkD)) := rfl
theorem lk_0 {l : Lnk} : oIx (lkD l) (.int 0) = some (.int l.1) := rfl
theorem lk_1 {l : Lnk} : oIx (lkD l) (.int 1) = some (.int (bI l.2)) := rfl
theorem DrOk.pre {r : Dr} {bs cs : List BS} (h : DrOk { r with bs := bs ++ cs }) : DrOk { r with bs := bs } := by
  refine ⟨h.t, h.w, h.nd, h.nl, ?_, fun b hb => h.bw b (List.mem_append_left _ hb), ?_⟩
  · have := h.bd
    simp only [List.map_append] at this
    exact (List.nodup_append.mp this).1
  · have := h.bl
    simp only [List.length_append] at this
    show bs.length < 1000
    omega
def drsOf (ws lb : List Wd) : Nat → List Pn → List Dr
  | _, [] => []
  | k, p :: P => prDr ws lb k p :: drsOf ws lb (k + 1) P
end Tw

set_option maxHeartbeats 2000000
namespace Tw
open PySem
def lks (P : List Pn) (j : Nat) : List Lnk := match P[j]? with | some p => p.ls | none => []
/-- x is above j -/
inductive Ab (P : List Pn) : Nat → Nat → Prop
  | base {j : Nat} {l : Lnk} : l ∈ lks P j → Ab P j l.1
  | step {j x : Nat} {l : Lnk} : l ∈ lks P j → Ab P l.1 x → Ab P j x
/-- x is a shared base of j -/
inductive Sh (P : List Pn) : Nat → Nat → Prop
  | base {j : Nat} {l : Lnk} : l ∈ lks P j → l.2 = true → Sh P j l.1
  | step {j x : Nat} {l : Lnk} : l ∈ lks P j → Sh P l.1 x → Sh P j x
theorem Ab.iff {P : List Pn} {j x : Nat} : Ab P j x ↔ ∃ l ∈ lks P j, x = l.1 ∨ Ab P l.1 x := by
  constructor
  · intro h
    cases h with
    | base h => exact ⟨_, h, .inl rfl⟩
    | step h k => exact ⟨_, h, .inr k⟩
  · rintro ⟨l, h, rfl | k⟩
    · exact .base h
    · exact .step h k
theorem Sh.iff {P : List Pn} {j x : Nat} : Sh P j x ↔ ∃ l ∈ lks P j, (l.2 = true ∧ x = l.1) ∨ Sh P l.1 x := by
  constructor
  · intro h
    cases h with
    | base h k => exact ⟨_, h, .inl ⟨k, rfl⟩⟩
    | step h k => exact ⟨_, h, .inr k⟩
  · rintro ⟨l, h, ⟨k, rfl⟩ | k⟩
    · exact .base h k
    · exact .step h k
section
variable {P : List Pn} {m : Nat} {j x : Nat}
theorem lks_lt (ho : PlanOk m P) {l : Lnk} (h : l ∈ lks P j) : l.1 < j := by
  unfold lks at h
  cases e : P[j]? with
  | none => rw [e] at h; cases h
  | some p => rw [e] at h; exact (ho j p e).lt l h
theorem Ab.lt (ho : PlanOk m P) (h : Ab P j x) : x < j := by
  induction h with
  | base h => exact lks_lt ho h
  | step h _ ih => have := lks_lt ho h; omega
theorem Sh.lt (ho : PlanOk m P) (h : Sh P j x) : x < j := by
  induction h with
  | base h _ => exact lks_lt ho h
  | step h _ ih => have := lks_lt ho h; omega
theorem Sh.ab (h : Sh P j x) : Ab P j x := by
  induction h with
  | base h _ => exact .base h
  | step h _ ih => exact .step h ih
end
noncomputable instance (P : List Pn) (j x : Nat) : Decidable (Ab P j x) := Classical.propDecidable _
noncomputable instance (P : List Pn) (j x : Nat) : Decidable (Sh P j x) := Classical.propDecidable _
noncomputable def abI (P : List Pn) (j : Nat) : List Nat := (List.range j).filter fun x => decide (Ab P j x)
noncomputable def shI (P : List Pn) (j : Nat) : List Nat := (List.range j).filter fun x => decide (Sh P j x)
theorem mem_abI {P : List Pn} {m j x : Nat} (ho : PlanOk m P) : x ∈ abI P j ↔ Ab P j x := by
  unfold abI
  rw [List.mem_filter, decide_eq_true_eq, List.mem_range]
  exact ⟨fun h => h.2, fun h => ⟨h.lt ho, h⟩⟩
theorem mem_shI {P : List Pn} {m j x : Nat} (ho : PlanOk m P) : x ∈ shI P j ↔ Sh P j x := by
  unfold shI
  rw [List.mem_filter, decide_eq_true_eq, List.mem_range]
  exact ⟨fun h => h.2, fun h => ⟨h.lt ho, h⟩⟩
def wmap (ws : List Wd) (l : List Nat) : List Wd := l.map fun k => ws.getD k []
theorem mem_wmap {ws : List Wd} (n : ws.Nodup) {l : List Nat} (hl : ∀ x ∈ l, x < ws.length) {k : Nat} (hk : k < ws.length) : ws.getD k [] ∈ wmap ws l ↔ k ∈ l := by
  constructor
  · intro h
    obtain ⟨x, hx, e⟩ := List.mem_map.mp h
    exact winj n (hl x hx) hk e ▸ hx
  · intro h
    exact List.mem_map.mpr ⟨k, h, rfl⟩
noncomputable def clOf (ws lb : List Wd) (P : List Pn) (j : Nat) : CL := ⟨prDr ws lb j (P.getD j ⟨[], []⟩), wmap ws (abI P j), wmap ws (shI P j)⟩
noncomputable def clsOf (ws lb : List Wd) (P : List Pn) (k : Nat) : List CL := (List.range k).map (clOf ws lb P)
theorem ttl_cls {ws lb : List Wd} {P : List Pn} {k : Nat} : ttl (clsOf ws lb P k) = wmap ws (List.range k) := by
  unfold ttl clsOf wmap
  rw [List.map_map]
  rfl
section
variable {ws lb : List Wd} {P : List Pn} {k : Nat}
theorem fnd_cls (hw : Wds ws) (hk : k ≤ ws.length) {i : Nat} (hi : i < k) : fnd (clsOf ws lb P k) (ws.getD i []) = some (clOf ws lb P i) := by
  have hm : ws.getD i [] ∈ ttl (clsOf ws lb P k) := by
    rw [ttl_cls]
    exact List.mem_map.mpr ⟨i, List.mem_range.mpr hi, rfl⟩
  obtain ⟨c, h1, h2, h3, _⟩ := fnd_spec hm
  obtain ⟨i', hi', rfl⟩ := List.mem_map.mp h3
  have hi' := List.mem_range.mp hi'
  have : i' = i := winj hw.nd (by omega) (by omega) h2
  rw [h1, this]
theorem lks_get {p : Pn} (h : P[k]? = some p) : lks P k = p.ls := by unfold lks; rw [h]
theorem mkCL_cls (hw : Wds ws) (ho : PlanOk lb.length P) (hk : k < ws.length) {p : Pn} (hp : P[k]? = some p) : mkCL (clsOf ws lb P k) (prDr ws lb k p) = clOf ws lb P k := by
  have hd : P.getD k ⟨[], []⟩ = p := by rw [List.getD_eq_getElem?_getD, hp]; rfl
  have hlt : ∀ l ∈ p.ls, l.1 < k := (ho k p hp).lt
  have hlk := lks_get hp
  unfold mkCL clOf
  rw [hd, ttl_cls]
  have ha : ∀ x < k, (decide (inAb (clsOf ws lb P k) (prDr ws lb k p).bs (ws.getD x [])) = true ↔ Ab P k x) := by
    intro x hx
    rw [decide_eq_true_eq, Ab.iff, hlk]
    constructor
    · rintro ⟨b, hb, h⟩
      obtain ⟨l, hl, rfl⟩ := List.mem_map.mp hb
      refine ⟨l, hl, ?_⟩
      have := hlt l hl
      rcases h with h | h
      · exact .inl (winj hw.nd (by omega) (by omega) h)
      · right
        unfold abOf at h
        rw [fnd_cls hw (by omega) this] at h
        exact (mem_abI ho).mp ((mem_wmap hw.nd (fun y hy => by have := ((mem_abI ho).mp hy).lt ho; omega) (by omega)).mp h)
    · rintro ⟨l, hl, h⟩
      have := hlt l hl
      refine ⟨(ws.getD l.1 [], l.2), List.mem_map.mpr ⟨l, hl, rfl⟩, ?_⟩
      rcases h with h | h
      · left; rw [h]
      · right
        unfold abOf
        rw [fnd_cls hw (by omega) this]
        exact (mem_wmap hw.nd (fun y hy => by have := ((mem_abI ho).mp hy).lt ho; omega) (by omega)).mpr ((mem_abI ho).mpr h)
  have hs : ∀ x < k, (decide (inSh (clsOf ws lb P k) (prDr ws lb k p).bs (ws.getD x [])) = true ↔ Sh P k x) := by
    intro x hx
    rw [decide_eq_true_eq, Sh.iff, hlk]
    constructor
    · rintro ⟨b, hb, h⟩
      obtain ⟨l, hl, rfl⟩ := List.mem_map.mp hb
      refine ⟨l, hl, ?_⟩
      have := hlt l hl
      rcases h with ⟨h1, h⟩ | h
      · exact .inl ⟨h1, winj hw.nd (by omega) (by omega) h⟩
      · right
        unfold shOf at h
        rw [fnd_cls hw (by omega) this] at h
        exact (mem_shI ho).mp ((mem_wmap hw.nd (fun y hy => by have := ((mem_shI ho).mp hy).lt ho; omega) (by omega)).mp h)
    · rintro ⟨l, hl, h⟩
      have := hlt l hl
      refine ⟨(ws.getD l.1 [], l.2), List.mem_map.mpr ⟨l, hl, rfl⟩, ?_⟩
      rcases h with ⟨h1, h⟩ | h
      · left; exact ⟨h1, by rw [h]⟩
      · right
        unfold shOf
        rw [fnd_cls hw (by omega) this]
        exact (mem_wmap hw.nd (fun y hy => by have := ((mem_shI ho).mp hy).lt ho; omega) (by omega)).mpr ((mem_shI ho).mpr h)
  have flt : ∀ (q : Wd → Bool) (r : Nat → Bool), (∀ x < k, (q (ws.getD x []) = true ↔ r x = true)) → (wmap ws (List.range k)).filter q = wmap ws ((List.range k).filter r) := by
    intro q r h
    unfold wmap
    rw [List.filter_map]
    congr 1
    refine List.filter_congr fun x hx => ?_
    have := h x (List.mem_range.mp hx)
    show q (ws.getD x []) = r x
    cases h1 : q (ws.getD x []) <;> cases h2 : r x <;> simp_all
  have e1 := flt (fun x => decide (inAb (clsOf ws lb P k) (prDr ws lb k p).bs x)) (fun x => decide (Ab P k x)) (fun x hx => (ha x hx).trans ⟨fun h => decide_eq_true h, fun h => of_decide_eq_true h⟩)
  have e2 := flt (fun x => decide (inSh (clsOf ws lb P k) (prDr ws lb k p).bs x)) (fun x => decide (Sh P k x)) (fun x hx => (hs x hx).trans ⟨fun h => decide_eq_true h, fun h => of_decide_eq_true h⟩)
  rw [e1, e2]
  rfl
theorem adok_cls (hw : Wds ws) (hb : Wds lb) (ho : PlanOk lb.length P) (hk : k < ws.length) {p : Pn} (hp : P[k]? = some p) : AdOk (clsOf ws lb P k) (prDr ws lb k p) := by
  refine ⟨prDr_ok hw hb hk (ho k p hp), ?_, fun b hm => ?_⟩
  · rw [ttl_cls]
    intro h
    obtain ⟨i, hi, e⟩ := List.mem_map.mp h
    have hi := List.mem_range.mp hi
    have : i = k := winj hw.nd (by omega) hk e
    omega
  · obtain ⟨l, hl, rfl⟩ := List.mem_map.mp hm
    rw [ttl_cls]
    exact List.mem_map.mpr ⟨l.1, List.mem_range.mpr ((ho k p hp).lt l hl), rfl⟩
theorem cls_succ (hw : Wds ws) (ho : PlanOk lb.length P) (hk : k < ws.length) {p : Pn} (hp : P[k]? = some p) : clsOf ws lb P k ++ [mkCL (clsOf ws lb P k) (prDr ws lb k p)] = clsOf ws lb P (k + 1) := by
  rw [mkCL_cls hw ho hk hp]
  show _ = (List.range (k + 1)).map _
  rw [List.range_succ, List.map_append]
  rfl
theorem grow_cls (hw : Wds ws) (hb : Wds lb) (ho : PlanOk lb.length P) (hl : P.length ≤ ws.length) (hl2 : lb.length ≤ 40) : ∀ (R Q : List Pn), P = Q ++ R →
    AdOks (clsOf ws lb P Q.length) (drsOf ws lb Q.length R) ∧ grow (clsOf ws lb P Q.length) (drsOf ws lb Q.length R) = clsOf ws lb P P.length
  | [], Q, e => by
    rw [List.append_nil] at e
    subst e
    exact ⟨.nil, rfl⟩
  | p :: R, Q, e => by
    have hp : P[Q.length]? = some p := by rw [e, List.getElem?_append_right (Nat.le_refl _), Nat.sub_self]; rfl
    have hj : Q.length < P.length := by rw [e, List.length_append, List.length_cons]; omega
    obtain ⟨h1, h2⟩ := grow_cls hw hb ho hl hl2 R (Q ++ [p]) (by rw [e, List.append_assoc]; rfl)
    rw [List.length_append, List.length_singleton] at h1 h2
    have hs := cls_succ (lb := lb) hw ho (show Q.length < ws.length by omega) hp
    have pl := (ho _ p hp).len
    have h4 := hw.l
    have p1 := pick_len lb p.ms 1
    have p2 := pick_len lb p.ms 2
    rw [drsOf]
    refine ⟨.cons (adok_cls hw hb ho (by omega) hp) ?_ ?_ (by rw [hs]; exact h1), by rw [grow, hs]; exact h2⟩
    · show (p.ls.map fun l => (ws.getD l.1 [], l.2)).length ≤ 100
      rw [List.length_map]; omega
    · show (pick lb p.ms 1 ++ pick lb p.ms 2).length ≤ 100
      rw [List.length_append]; omega
end
theorem drsOf_len {ws lb : List Wd} : ∀ (P : List Pn) (k : Nat), (drsOf ws lb k P).length = P.length
  | [], k => rfl
  | p :: P, k => by rw [drsOf, List.length_cons, drsOf_len P, List.length_cons]
theorem dls_map : ∀ rs : List Dr, DLs (rs.map drD) rs
  | [] => .nil
  | r :: rs => .cons (drD_like r) rfl (dls_map rs)
def nmsOf (ws lb : List Wd) (P : List Pn) : List Wd := growN [] (drsOf ws lb 0 P)
/-- the library of a plan -/
theorem lib_ok {ws lb : List Wd} {P : List Pn} (hw : Wds ws) (hb : Wds lb) (ho : PlanOk lb.length P) (hl : P.length ≤ ws.length) (hl2 : lb.length ≤ 40) :
    mkD "Library" d_Library_init [.lst ((drsOf ws lb 0 P).map drD)] = .ok (liD (clsOf ws lb P P.length) (nmsOf ws lb P)) := by
  obtain ⟨h1, h2⟩ := grow_cls hw hb ho hl hl2 P [] rfl
  have h4 := hw.l
  have := libInit_ok (dd := .lst ((drsOf ws lb 0 P).map drD)) rfl (dls_map _) h1 (by rw [drsOf_len]; omega)
  rw [this]
  have h2 : grow [] (drsOf ws lb 0 P) = _ := h2
  rw [h2]
  rfl
end Tw

set_option maxHeartbeats 2000000
namespace Tw
open PySem
def niL (l : List Nat) : List D := l.map fun i : Nat => .int i
theorem niL_len (l : List Nat) : (niL l).length = l.length := List.length_map _
theorem niL_app (a b : List Nat) : niL (a ++ b) = niL a ++ niL b := List.map_append
theorem deq_int {i j : Int} : deq (.int i) (.int j) = decide (i = j) := by
  have : deq (.int i) (.int j) = (i == j) := by simp [deq]
  rw [this]; rfl
theorem flat_ni : ∀ l : List Nat, (niL l).all flatD = true
  | [] => rfl
  | a :: l => by
    show (flatD (.int a) && (niL l).all flatD) = true
    rw [flat_ni l]; rfl
theorem any_ni (x : Nat) : ∀ l : List Nat, ((niL l).any fun y => deq y (.int x)) = decide (x ∈ l)
  | [] => rfl
  | a :: l => by
    show (deq (.int a) (.int x) || (niL l).any fun y => deq y (.int x)) = _
    rw [any_ni x l, deq_int]
    by_cases h : a = x
    · subst h; simp
    · have h2 : ¬ (a : Int) = x := by omega
      have h3 : ¬ x = a := fun e => h e.symm
      simp [h2, h3]
theorem in_ni (x : Nat) (l : List Nat) : oIn (.int x) (.lst (niL l)) = some (.bl (decide (x ∈ l))) := by
  have h : inD (.int x) (.lst (niL l)) = some (decide (x ∈ l)) := by
    show (if flatD (.int x) && (niL l).all flatD then some ((niL l).any fun y => deq y (.int x)) else _) = _
    rw [flat_ni, any_ni]
    rfl
  unfold oIn
  rw [h]
  rfl
theorem notin_ni (x : Nat) (l : List Nat) : oNotIn (.int x) (.lst (niL l)) = some (.bl (!decide (x ∈ l))) := by
  have h : inD (.int x) (.lst (niL l)) = some (decide (x ∈ l)) := by
    show (if flatD (.int x) && (niL l).all flatD then some ((niL l).any fun y => deq y (.int x)) else _) = _
    rw [flat_ni, any_ni]
    rfl
  unfold oNotIn
  rw [h]
  rfl
def putK (x : Nat) (A : List Nat) : List Nat := if x ∈ A then A else A ++ [x]
def putsK (xs A : List Nat) : List Nat := xs.foldl (fun A x => putK x A) A
theorem mem_putK {x y : Nat} {A : List Nat} : x ∈ putK y A ↔ x ∈ A ∨ x = y := by
  unfold putK
  by_cases h : y ∈ A
  · rw [if_pos h]
    exact ⟨.inl, fun z => z.elim id fun e => e ▸ h⟩
  · rw [if_neg h, List.mem_append, List.mem_singleton]
theorem mem_putsK {x : Nat} : ∀ {xs A : List Nat}, x ∈ putsK xs A ↔ x ∈ A ∨ x ∈ xs
  | [], A => by simp [putsK]
  | y :: xs, A => by
    have ih := mem_putsK (x := x) (xs := xs) (A := putK y A)
    show x ∈ putsK xs (putK y A) ↔ _
    rw [ih, mem_putK, List.mem_cons]
    constructor
    · rintro ((h | h) | h)
      · exact .inl h
      · exact .inr (.inl h)
      · exact .inr (.inr h)
    · rintro (h | h | h)
      · exact .inl (.inl h)
      · exact .inl (.inr h)
      · exact .inr h
/-- small numbers, each once -/
structure Few (b : Nat) (A : List Nat) : Prop where
  nd : A.Nodup
  lt : ∀ x ∈ A, x < b
theorem Few.nil {b : Nat} : Few b [] := ⟨List.nodup_nil, fun _ h => by cases h⟩
theorem Few.len {b : Nat} {A : List Nat} (h : Few b A) : A.length ≤ b := by
  have := nd_len (m := List.range b) h.nd fun x hx => List.mem_range.mpr (h.lt x hx)
  simpa using this
theorem Few.put {b x : Nat} {A : List Nat} (h : Few b A) (hx : x < b) : Few b (putK x A) := by
  unfold putK
  by_cases e : x ∈ A
  · rw [if_pos e]; exact h
  · rw [if_neg e]
    refine ⟨List.nodup_append.mpr ⟨h.nd, List.nodup_cons.mpr ⟨fun z => (by cases z), List.nodup_nil⟩, fun a ha c hc z => ?_⟩, fun y hy => ?_⟩
    · rw [List.mem_singleton.mp hc] at z; exact e (z ▸ ha)
    · exact (List.mem_append.mp hy).elim (h.lt y) fun z => List.mem_singleton.mp z ▸ hx
theorem Few.puts {b : Nat} : ∀ {xs A : List Nat}, Few b A → (∀ x ∈ xs, x < b) → Few b (putsK xs A)
  | [], A, h, _ => h
  | x :: xs, A, h, hx => (h.put (hx x List.mem_cons_self)).puts fun y hy => hx y (List.mem_cons_of_mem _ hy)
section
variable {a0 a1 a2 a3 a4 : Option Slot}
theorem sh_step1 {b x : Nat} {A : List Nat} (h : Few b A) (hb : b < 1000) : b_law_shared_1 [a0, a1, a2, some (.own (.lst (niL A))), a4, some (.val (.int x))] = .ok (.nx [a0, a1, a2, some (.own (.lst (niL (putK x A)))), a4, some (.val (.int x))]) := by
  have hl := h.len
  have n1 := notin_ni x A
  have ll : (niL A).length < 1000000 := by rw [niL_len]; omega
  unfold b_law_shared_1 putK
  by_cases hx : x ∈ A
  · rw [decide_eq_true hx] at n1
    simp -implicitDefEqProofs (disch := (first | assumption | omega | (simp only [ngs]; done) | decide)) only [ev, R.bind_ok, R.bind_ex, R.st_ok, R.st_ex, R.of_some, List.length_map, n1]
    rw [if_pos hx]
  · rw [decide_eq_false hx] at n1
    simp -implicitDefEqProofs (disch := (first | assumption | omega | (simp only [ngs]; done) | decide)) only [ev, R.bind_ok, R.bind_ex, R.st_ok, R.st_ex, R.of_some, List.length_map, n1]
    rw [if_neg hx, niL_app]
    rfl
theorem sh_loop1 {b : Nat} (hb : b < 1000) : ∀ (xs A : List Nat), Few b A → (∀ x ∈ xs, x < b) →
    forL (gVar 5) [5] b_law_shared_1 (niL xs) [a0, a1, a2, some (.own (.lst (niL A))), a4, none] = .ok (.nx [a0, a1, a2, some (.own (.lst (niL (putsK xs A)))), a4, none])
  | [], A, _, _ => by rw [show niL [] = [] from rfl, f_n]; rfl
  | x :: xs, A, h, hx => by
    have st := fun a0 a1 a2 a4 => sh_step1 (a0 := a0) (a1 := a1) (a2 := a2) (a4 := a4) (x := x) h hb
    have ih := sh_loop1 hb xs (putK x A) (h.put (hx x List.mem_cons_self)) fun y hy => hx y (List.mem_cons_of_mem _ hy)
    rw [show niL (x :: xs) = .int x :: niL xs from rfl, f_c]
    simp -implicitDefEqProofs (disch := (first | assumption | omega | (simp only [ngs]; done) | decide)) only [ev, R.bind_ok, R.bind_ex, R.st_ok, R.st_ex, R.of_some, List.length_map, st, ih]
    rfl
def shAdd (T : List (List Nat)) (A : List Nat) (l : Lnk) : List Nat := if l.2 then putK l.1 (putsK (T.getD l.1 []) A) else putsK (T.getD l.1 []) A
def shL (T : List (List Nat)) (ls : List Lnk) (A : List Nat) : List Nat := ls.foldl (shAdd T) A
theorem shAdd_few {b : Nat} {T : List (List Nat)} {A : List Nat} {l : Lnk} (h : Few b A) (hl : l.1 < b) (hT : ∀ x ∈ T.getD l.1 [], x < b) : Few b (shAdd T A l) := by
  unfold shAdd
  split
  · exact (h.puts hT).put hl
  · exact h.puts hT
theorem mem_shAdd {T : List (List Nat)} {A : List Nat} {l : Lnk} {x : Nat} : x ∈ shAdd T A l ↔ x ∈ A ∨ ((l.2 = true ∧ x = l.1) ∨ x ∈ T.getD l.1 []) := by
  unfold shAdd
  by_cases h : l.2 = true
  · rw [if_pos h, mem_putK, mem_putsK]
    constructor
    · rintro ((h1 | h1) | h1)
      · exact .inl h1
      · exact .inr (.inr h1)
      · exact .inr (.inl ⟨h, h1⟩)
    · rintro (h1 | ⟨_, h1⟩ | h1)
      · exact .inl (.inl h1)
      · exact .inr h1
      · exact .inl (.inr h1)
  · rw [if_neg h, mem_putsK]
    constructor
    · rintro (h1 | h1)
      · exact .inl h1
      · exact .inr (.inr h1)
    · rintro (h1 | ⟨h2, _⟩ | h1)
      · exact .inl h1
      · exact absurd h2 h
      · exact .inr h1
theorem mem_shL {T : List (List Nat)} {x : Nat} : ∀ {ls : List Lnk} {A : List Nat}, x ∈ shL T ls A ↔ x ∈ A ∨ ∃ l ∈ ls, (l.2 = true ∧ x = l.1) ∨ x ∈ T.getD l.1 []
  | [], A => by simp [shL]
  | l :: ls, A => by
    have ih := mem_shL (T := T) (x := x) (ls := ls) (A := shAdd T A l)
    show x ∈ shL T ls (shAdd T A l) ↔ _
    rw [ih, mem_shAdd]
    simp only [List.mem_cons, exists_eq_or_imp, or_assoc]
theorem sh_step2 {b : Nat} {T : List (List Nat)} {A : List Nat} {l : Lnk} {o5 : Option Slot} (hb : b < 1000) (h : Few b A) (hl : l.1 < b) (hT : l.1 < T.length) (hTb : ∀ x ∈ T.getD l.1 [], x < b) :
    b_law_shared_2 [a0, some (.own (.lst (T.map fun l => .lst (niL l)))), a2, some (.own (.lst (niL A))), some (.val (lkD l)), none] = .ok (.nx [a0, some (.own (.lst (T.map fun l => .lst (niL l)))), a2, some (.own (.lst (niL (shAdd T A l)))), some (.val (lkD l)), none]) := by
  have hg : (T.map fun l => D.lst (niL l))[l.1]? = some (.lst (niL (T.getD l.1 []))) := by
    rw [List.getElem?_map, List.getD_eq_getElem?_getD, List.getElem?_eq_getElem hT]; rfl
  have lp := fun a0 a1 a2 a4 => sh_loop1 (a0 := a0) (a1 := a1) (a2 := a2) (a4 := a4) hb (T.getD l.1 []) A h hTb
  have hB := h.puts hTb
  have n1 := notin_ni l.1 (putsK (T.getD l.1 []) A)
  have bl := hB.len
  generalize hBB : putsK (T.getD l.1 []) A = B at *
  have ll : (niL B).length < 1000000 := by rw [niL_len]; omega
  unfold b_law_shared_2 shAdd
  rw [hBB]
  cases h2 : l.2 with
  | false =>
    have c : decide (bI l.2 = 1) = false := by rw [h2]; decide
    simp -implicitDefEqProofs (disch := (first | assumption | omega | (simp only [ngs]; done) | decide)) only [ev, R.bind_ok, R.bind_ex, R.st_ok, R.st_ex, R.of_some, List.length_map, lk_0, lk_1, hg, lp, c]
    rfl
  | true =>
    have c : decide (bI l.2 = 1) = true := by rw [h2]; decide
    unfold putK
    by_cases hx : l.1 ∈ B
    · rw [decide_eq_true hx] at n1
      simp -implicitDefEqProofs (disch := (first | assumption | omega | (simp only [ngs]; done) | decide)) only [ev, R.bind_ok, R.bind_ex, R.st_ok, R.st_ex, R.of_some, List.length_map, lk_0, lk_1, hg, lp, c, n1]
      rw [if_pos trivial, if_pos hx]
    · rw [decide_eq_false hx] at n1
      simp -implicitDefEqProofs (disch := (first | assumption | omega | (simp only [ngs]; done) | decide)) only [ev, R.bind_ok, R.bind_ex, R.st_ok, R.st_ex, R.of_some, List.length_map, lk_0, lk_1, hg, lp, c, n1]
      rw [if_pos trivial, if_neg hx, niL_app]
      rfl
theorem sh_loop2 {b : Nat} {T : List (List Nat)} (hb : b < 1000) : ∀ (ls : List Lnk) (A : List Nat), Few b A → (∀ l ∈ ls, l.1 < b ∧ l.1 < T.length ∧ ∀ x ∈ T.getD l.1 [], x < b) →
    forL (gVar 4) [4, 5] b_law_shared_2 (ls.map lkD) [a0, some (.own (.lst (T.map fun l => .lst (niL l)))), a2, some (.own (.lst (niL A))), none, none] = .ok (.nx [a0, some (.own (.lst (T.map fun l => .lst (niL l)))), a2, some (.own (.lst (niL (shL T ls A)))), none, none])
  | [], A, _, _ => by rw [List.map_nil, f_n]; rfl
  | l :: ls, A, h, hl => by
    obtain ⟨h1, h2, h3⟩ := hl l List.mem_cons_self
    have st := fun a0 a2 => sh_step2 (a0 := a0) (a2 := a2) (o5 := none) hb h h1 h2 h3
    have ih := sh_loop2 hb ls (shAdd T A l) (shAdd_few h h1 h3) fun x hx => hl x (List.mem_cons_of_mem _ hx)
    rw [List.map_cons, f_c]
    simp -implicitDefEqProofs (disch := (first | assumption | omega | (simp only [ngs]; done) | decide)) only [ev, R.bind_ok, R.bind_ex, R.st_ok, R.st_ex, R.of_some, List.length_map, st, ih]
    rfl
end
/-- the table of the plan -/
structure ShT (P : List Pn) (T : List (List Nat)) : Prop where
  few : ∀ j, j < T.length → Few 100 (T.getD j [])
  mem : ∀ j, j < T.length → ∀ x, x ∈ T.getD j [] ↔ Sh P j x
theorem getD_app1 {T : List (List Nat)} {A : List Nat} {j : Nat} (h : j < T.length) : (T ++ [A]).getD j [] = T.getD j [] := by
  rw [List.getD_eq_getElem?_getD, List.getElem?_append_left h, ← List.getD_eq_getElem?_getD]
theorem getD_app2 {T : List (List Nat)} {A : List Nat} : (T ++ [A]).getD T.length [] = A := by
  rw [List.getD_eq_getElem?_getD, List.getElem?_append_right (Nat.le_refl _), Nat.sub_self]; rfl
theorem sh_loop3 {m : Nat} {P : List Pn} (ho : PlanOk m P) (hl : P.length ≤ 100) : ∀ (W Q : List Pn) (T : List (List Nat)), P = Q ++ W → T.length = Q.length → ShT P T →
    ∃ T', T'.length = P.length ∧ ShT P T' ∧ forL (gVar 2) [2, 3, 4, 5] b_law_shared_3 ((List.range' Q.length W.length).map fun i : Nat => .int i) [some (.val (.lst (P.map pnD))), some (.own (.lst (T.map fun l => .lst (niL l)))), none, none, none, none] =
      .ok (.nx [some (.val (.lst (P.map pnD))), some (.own (.lst (T'.map fun l => .lst (niL l)))), none, none, none, none])
  | [], Q, T, e, eT, hT => by
    rw [List.append_nil] at e
    refine ⟨T, by rw [eT, e], hT, ?_⟩
    rw [List.length_nil, List.range'_zero, List.map_nil, f_n]
  | p :: W, Q, T, e, eT, hT => by
    have hp : P[Q.length]? = some p := by rw [e, List.getElem?_append_right (Nat.le_refl _), Nat.sub_self]; rfl
    have hj : Q.length < P.length := by rw [e, List.length_append, List.length_cons]; omega
    have hlt := (ho _ p hp).lt
    have hA : ∀ l ∈ p.ls, l.1 < 100 ∧ l.1 < T.length ∧ ∀ x ∈ T.getD l.1 [], x < 100 := fun l hx => by
      have := hlt l hx
      exact ⟨by omega, by omega, (hT.few l.1 (by omega)).lt⟩
    have lp := fun a0 a2 => sh_loop2 (a0 := a0) (a2 := a2) (b := 100) (T := T) (by decide) p.ls [] Few.nil hA
    have hfew : ∀ (ls : List Lnk) (A : List Nat), Few 100 A → (∀ l ∈ ls, l.1 < 100 ∧ l.1 < T.length ∧ ∀ x ∈ T.getD l.1 [], x < 100) → Few 100 (shL T ls A) := by
      intro ls
      induction ls with
      | nil => intro A h _; exact h
      | cons l ls ih =>
        intro A h hx
        obtain ⟨h1, _, h3⟩ := hx l List.mem_cons_self
        exact ih _ (shAdd_few h h1 h3) fun y hy => hx y (List.mem_cons_of_mem _ hy)
    have f1 := hfew p.ls [] Few.nil hA
    have T' : ShT P (T ++ [shL T p.ls []]) := by
      refine ⟨fun j hj => ?_, fun j hj x => ?_⟩
      · by_cases h : j < T.length
        · rw [getD_app1 h]; exact hT.few j h
        · rw [List.length_append, List.length_singleton] at hj
          have : j = T.length := by omega
          subst this
          rw [getD_app2]; exact f1
      · by_cases h : j < T.length
        · rw [getD_app1 h]; exact hT.mem j h x
        · rw [List.length_append, List.length_singleton] at hj
          have : j = T.length := by omega
          subst this
          rw [getD_app2, mem_shL, Sh.iff, eT, lks_get hp]
          constructor
          · rintro (h | ⟨l, h1, h2⟩)
            · cases h
            · refine ⟨l, h1, h2.imp id fun h3 => ?_⟩
              exact (hT.mem l.1 (hA l h1).2.1 x).mp h3
          · rintro ⟨l, h1, h2⟩
            refine .inr ⟨l, h1, h2.imp id fun h3 => ?_⟩
            exact (hT.mem l.1 (hA l h1).2.1 x).mpr h3
    obtain ⟨T2, t1, t2, t3⟩ := sh_loop3 ho hl W (Q ++ [p]) (T ++ [shL T p.ls []]) (by rw [e, List.append_assoc]; rfl) (by rw [List.length_append, List.length_append, eT]; rfl) T'
    rw [List.length_append, List.length_singleton] at t3
    refine ⟨T2, t1, t2, ?_⟩
    have x1 := mapG (f := pnD) hp
    have tl : (T.map fun l => D.lst (niL l)).length < 1000000 := by rw [List.length_map]; omega
    have st : b_law_shared_3 [some (.val (.lst (P.map pnD))), some (.own (.lst (T.map fun l => .lst (niL l)))), some (.val (.int Q.length)), none, none, none] =
        .ok (.nx [some (.val (.lst (P.map pnD))), some (.own (.lst ((T ++ [shL T p.ls []]).map fun l => .lst (niL l)))), some (.val (.int Q.length)), some (.val (.lst (niL (shL T p.ls [])))), none, none]) := by
      unfold b_law_shared_3
      rw [show niL [] = [] from rfl] at lp
      simp -implicitDefEqProofs (disch := (first | assumption | omega | (simp only [ngs]; done) | decide)) only [ev, R.bind_ok, R.bind_ex, R.st_ok, R.st_ex, R.of_some, List.length_map, x1, pn_0, lp]
      rw [List.map_append]
      rfl
    rw [List.length_cons, List.range'_succ, List.map_cons, f_c]
    simp -implicitDefEqProofs (disch := (first | assumption | omega | (simp only [ngs]; done) | decide)) only [ev, R.bind_ok, R.bind_ex, R.st_ok, R.st_ex, R.of_some, List.length_map, st, t3]
theorem law_shared_ok {m : Nat} {P : List Pn} (ho : PlanOk m P) (hl : P.length ≤ 100) : ∃ T, T.length = P.length ∧ ShT P T ∧ d_law_shared [plnD P] = .ok (.lst (T.map fun l => .lst (niL l))) := by
  obtain ⟨T, h1, h2, h3⟩ := sh_loop3 ho hl P [] [] rfl rfl ⟨fun j h => by simp at h, fun j h => by simp at h⟩
  refine ⟨T, h1, h2, ?_⟩
  rw [List.length_nil, ← List.range_eq_range', List.map_nil] at h3
  have l9 : P.length < 1000000000 := by omega
  rw [e_law_shared]
  unfold b_law_shared plnD
  simp -implicitDefEqProofs (disch := (first | assumption | omega | (simp only [ngs]; done) | decide)) only [ev, R.bind_ok, R.bind_ex, R.st_ok, R.st_ex, R.of_some, List.length_map, h3]
end Tw

set_option maxHeartbeats 2000000
namespace Tw
open PySem
theorem putsK_pre : ∀ (xs A : List Nat), ∃ B, putsK xs A = A ++ B
  | [], A => ⟨[], (List.append_nil A).symm⟩
  | x :: xs, A => by
    obtain ⟨B, h⟩ := putsK_pre xs (putK x A)
    by_cases hx : x ∈ A
    · refine ⟨B, ?_⟩
      show putsK xs (putK x A) = _
      rw [h]
      unfold putK
      rw [if_pos hx]
    · refine ⟨x :: B, ?_⟩
      show putsK xs (putK x A) = _
      rw [h]
      unfold putK
      rw [if_neg hx, List.append_assoc]
      rfl
section
variable {a0 a1 a3 : Option Slot}
theorem ab_step1 {l : Lnk} {A : List Nat} (hl : A.length < 1000) : b_law_above_1 [a0, a1, some (.own (.lst (niL A))), a3, some (.val (lkD l))] = .ok (.nx [a0, a1, some (.own (.lst (niL (putK l.1 A)))), a3, some (.val (lkD l))]) := by
  have n1 := notin_ni l.1 A
  have ll : (niL A).length < 1000000 := by rw [niL_len]; omega
  unfold b_law_above_1 putK
  by_cases hx : l.1 ∈ A
  · rw [decide_eq_true hx] at n1
    simp -implicitDefEqProofs (disch := (first | assumption | omega | (simp only [ngs]; done) | decide)) only [ev, R.bind_ok, R.bind_ex, R.st_ok, R.st_ex, R.of_some, List.length_map, lk_0, n1]
    rw [if_pos hx]
  · rw [decide_eq_false hx] at n1
    simp -implicitDefEqProofs (disch := (first | assumption | omega | (simp only [ngs]; done) | decide)) only [ev, R.bind_ok, R.bind_ex, R.st_ok, R.st_ex, R.of_some, List.length_map, lk_0, n1]
    rw [if_neg hx, niL_app]
    rfl
theorem ab_loop1 {b : Nat} (hb : b < 1000) : ∀ (ls : List Lnk) (A : List Nat), Few b A → (∀ l ∈ ls, l.1 < b) →
    forL (gVar 4) [4] b_law_above_1 (ls.map lkD) [a0, a1, some (.own (.lst (niL A))), a3, none] = .ok (.nx [a0, a1, some (.own (.lst (niL (putsK (ls.map Prod.fst) A)))), a3, none])
  | [], A, _, _ => by rw [List.map_nil, f_n]; rfl
  | l :: ls, A, h, hx => by
    have hl := h.len
    have st := fun a0 a1 a3 => ab_step1 (a0 := a0) (a1 := a1) (a3 := a3) (l := l) (A := A) (by omega)
    have ih := ab_loop1 hb ls (putK l.1 A) (h.put (hx l List.mem_cons_self)) fun y hy => hx y (List.mem_cons_of_mem _ hy)
    rw [List.map_cons, f_c]
    simp -implicitDefEqProofs (disch := (first | assumption | omega | (simp only [ngs]; done) | decide)) only [ev, R.bind_ok, R.bind_ex, R.st_ok, R.st_ex, R.of_some, List.length_map, st, ih]
    rfl
end
structure WI (P : List Pn) (top a : Nat) (F : List Nat) : Prop where
  few : Few (top + 1) F
  hd : ∃ F1, F = top :: F1
  ab : ∀ x ∈ F, x = top ∨ Ab P top x
  cl : ∀ i, i < a → ∀ x, F[i]? = some x → ∀ l ∈ lks P x, l.1 ∈ F
  le : a ≤ F.length
theorem ab_trans {P : List Pn} {i j k : Nat} (h : Ab P i j) (k' : Ab P j k) : Ab P i k := by
  induction h with
  | base h => exact .step h k'
  | step h _ ih => exact .step h (ih k')
theorem above_loop {m : Nat} {P : List Pn} (ho : PlanOk m P) (hl : P.length ≤ 100) {top : Nat} (ht : top < P.length) : ∀ (n a : Nat) (F : List Nat), WI P top a F → top + 1 < a + n → a + n ≤ 1000 →
    ∃ (F' : List Nat) (at' : Nat), WI P top F'.length F' ∧ forL (gVar 3) [3, 4] b_law_above_2 ((List.range' a n).map fun i : Nat => .int i) [some (.val (.lst (P.map pnD))), some (.val (.int top)), some (.own (.lst (niL F))), none, none] =
      .ok (.nx [some (.val (.lst (P.map pnD))), some (.val (.int top)), some (.own (.lst (niL F'))), some (.val (.int at')), none])
  | 0, a, F, w, h, _ => by
    have := w.few.len
    have := w.le
    omega
  | n + 1, a, F, w, h, h1 => by
    have fl := w.few.len
    rw [List.range'_succ, List.map_cons, f_c]
    by_cases e : a = F.length
    · refine ⟨F, a, e ▸ w, ?_⟩
      have c : decide ((a : Int) = F.length) = true := decide_eq_true (by rw [e])
      have st : b_law_above_2 [some (.val (.lst (P.map pnD))), some (.val (.int top)), some (.own (.lst (niL F))), some (.val (.int a)), none] =
          .ok (.bk [some (.val (.lst (P.map pnD))), some (.val (.int top)), some (.own (.lst (niL F))), some (.val (.int a)), none]) := by
        unfold b_law_above_2
        simp -implicitDefEqProofs (disch := (first | assumption | omega | (simp only [ngs]; done) | decide)) only [ev, R.bind_ok, R.bind_ex, R.st_ok, R.st_ex, R.of_some, List.length_map, niL_len, c]
      simp -implicitDefEqProofs (disch := (first | assumption | omega | (simp only [ngs]; done) | decide)) only [ev, R.bind_ok, R.bind_ex, R.st_ok, R.st_ex, R.of_some, List.length_map, st]
    · have hlt : a < F.length := by have := w.le; omega
      have hx := List.getElem?_eq_getElem hlt
      generalize F[a] = x at hx
      have hxF : x ∈ F := List.mem_of_getElem? hx
      have hxb : x < top + 1 := w.few.lt x hxF
      have hp : P[x]? = some P[x] := List.getElem?_eq_getElem (by omega)
      generalize P[x]'(by omega) = p at hp
      have hk := lks_get hp
      have plt := (ho x p hp).lt
      have lp := fun a0 a1 a3 => ab_loop1 (a0 := a0) (a1 := a1) (a3 := a3) (b := top + 1) (by omega) p.ls F w.few (fun l hl => by have := plt l hl; omega)
      obtain ⟨B, hB⟩ := putsK_pre (p.ls.map Prod.fst) F
      have hm : ∀ y, y ∈ putsK (p.ls.map Prod.fst) F ↔ y ∈ F ∨ y ∈ p.ls.map Prod.fst := fun y => mem_putsK
      have hf : Few (top + 1) (putsK (p.ls.map Prod.fst) F) := w.few.puts fun y hy => by
        obtain ⟨l, hl, rfl⟩ := List.mem_map.mp hy
        have := plt l hl
        omega
      generalize hG : putsK (p.ls.map Prod.fst) F = G at *
      have w' : WI P top (a + 1) G := by
        refine ⟨hf, ?_, fun y hy => ?_, fun i hi y hy l hl => ?_, by rw [hB, List.length_append]; omega⟩
        · obtain ⟨F1, rfl⟩ := w.hd
          exact ⟨F1 ++ B, hB⟩
        · rcases (hm y).mp hy with h | h
          · exact w.ab y h
          · right
            obtain ⟨l, hl, rfl⟩ := List.mem_map.mp h
            have hb : Ab P x l.1 := .base (by rw [hk]; exact hl)
            rcases w.ab x hxF with rfl | hx
            · exact hb
            · exact ab_trans hx hb
        · have hi' : i < F.length := by omega
          rw [hB, List.getElem?_append_left hi'] at hy
          by_cases hia : i = a
          · subst hia
            rw [hx] at hy
            obtain rfl : x = y := Option.some.inj hy
            rw [hk] at hl
            exact (hm _).mpr (.inr (List.mem_map.mpr ⟨l, hl, rfl⟩))
          · exact (hm _).mpr (.inl (w.cl i (by omega) y hy l hl))
      obtain ⟨F', at', z1, z2⟩ := above_loop ho hl ht n (a + 1) G w' (by omega) (by omega)
      refine ⟨F', at', z1, ?_⟩
      have c : decide ((a : Int) = F.length) = false := decide_eq_false (by omega)
      have x1 : (niL F)[a]? = some (.int x) := mapG (f := fun i : Nat => D.int i) hx
      have x2 := mapG (f := pnD) hp
      have st : b_law_above_2 [some (.val (.lst (P.map pnD))), some (.val (.int top)), some (.own (.lst (niL F))), some (.val (.int a)), none] =
          .ok (.nx [some (.val (.lst (P.map pnD))), some (.val (.int top)), some (.own (.lst (niL G))), some (.val (.int a)), none]) := by
        unfold b_law_above_2
        simp -implicitDefEqProofs (disch := (first | assumption | omega | (simp only [ngs]; done) | decide)) only [ev, R.bind_ok, R.bind_ex, R.st_ok, R.st_ex, R.of_some, List.length_map, niL_len, c, x1, x2, pn_0, lp]
      simp -implicitDefEqProofs (disch := (first | assumption | omega | (simp only [ngs]; done) | decide)) only [ev, R.bind_ok, R.bind_ex, R.st_ok, R.st_ex, R.of_some, List.length_map, st, z2]
theorem law_above_ok {m : Nat} {P : List Pn} (ho : PlanOk m P) (hl : P.length ≤ 100) {top : Nat} (ht : top < P.length) :
    ∃ F1 : List Nat, (∀ x, x ∈ F1 ↔ Ab P top x) ∧ Few (top + 1) (top :: F1) ∧ d_law_above [plnD P, .int top] = .ok (.lst (niL (top :: F1))) := by
  have w0 : WI P top 0 [top] := ⟨⟨List.nodup_cons.mpr ⟨fun z => (by cases z), List.nodup_nil⟩, fun x hx => by rw [List.mem_singleton.mp hx]; omega⟩, ⟨[], rfl⟩, fun x hx => .inl (List.mem_singleton.mp hx), fun i hi => by omega, Nat.zero_le _⟩
  obtain ⟨F', at', w, h⟩ := above_loop ho hl ht 200 0 [top] w0 (by omega) (by omega)
  obtain ⟨F1, rfl⟩ := w.hd
  refine ⟨F1, fun x => ⟨fun hx => ?_, fun hx => ?_⟩, w.few, ?_⟩
  · rcases w.ab x (List.mem_cons_of_mem _ hx) with rfl | h
    · exact absurd hx (List.nodup_cons.mp w.few.nd).1
    · exact h
  · have cl : ∀ y ∈ top :: F1, ∀ l ∈ lks P y, l.1 ∈ top :: F1 := fun y hy l hl => by
      obtain ⟨i, hi, e⟩ := List.mem_iff_getElem.mp hy
      exact w.cl i hi y (by rw [List.getElem?_eq_getElem hi, e]) l hl
    have key : ∀ {j y : Nat}, Ab P j y → j ∈ top :: F1 → y ∈ top :: F1 := by
      intro j y h
      induction h with
      | base h => exact fun hj => cl _ hj _ h
      | step h _ ih => exact fun hj => ih (cl _ hj _ h)
    have := key hx List.mem_cons_self
    rcases List.mem_cons.mp this with e | e
    · subst e
      have := hx.lt ho
      omega
    · exact e
  · rw [← List.range_eq_range'] at h
    have r0 : D.lst [.int top] = .lst (niL [top]) := rfl
    have rg : rngR (.int 200) = .ok ((List.range 200).map fun i : Nat => .int i) := rg_n (k := 200) (by decide)
    rw [e_law_above]
    unfold b_law_above plnD
    simp -implicitDefEqProofs (disch := (first | assumption | omega | (simp only [ngs]; done) | decide)) only [ev, R.bind_ok, R.bind_ex, R.st_ok, R.st_ex, R.of_some, List.length_map, r0, rg, h]
theorem shp_wds {l : List Wd} (h : ∀ w ∈ l, isW w = true) : shp 60 (.tup (stL l)) = true := by
  have sm : ∀ w : Wd, isW w = true → strOkD (S w) = true := fun w h => by
    unfold strOkD S
    simp only [List.all_toArray, List.all_eq_true, decide_eq_true_eq]
    cases w with
    | nil => intro c hc; cases hc
    | cons a l =>
      intro c hc
      have h3 : (a :: l).all isLD = true := by
        rw [show isW (a :: l) = (decide (l.length < 8) && isL a && (a :: l).all isLD) from rfl] at h
        exact (Bool.and_eq_true_iff.mp h).2
      have h4 := List.all_eq_true.mp h3 c hc
      have hb : (∀ x ∈ LT, x < 0x110000) ∧ ∀ x ∈ DG10, x < 0x110000 := by decide +kernel
      unfold isLD at h4
      rcases Bool.or_eq_true_iff.mp h4 with h5 | h5
      · exact hb.1 c (of_decide_eq_true h5)
      · exact hb.2 c (of_decide_eq_true h5)
  have hs : ∀ l : List Wd, (∀ w ∈ l, isW w = true) → (stL l).all (shp 59) = true := by
    intro l
    induction l with
    | nil => intro _; rfl
    | cons w l ih =>
      intro h
      show (shp 59 (.str (S w)) && (stL l).all (shp 59)) = true
      rw [ih fun w hw => h w (List.mem_cons_of_mem _ hw), Bool.and_true]
      exact sm w (h w List.mem_cons_self)
  exact hs l h
/-- the words of a law -/
def lws (f b : List Nat) (z : Bool) (t n : Nat) : List Wd := (List.range n).map (wordL f b z t)
theorem lws_ok {f b : List Nat} {z : Bool} {t n : Nat} (hf : isFr f) (hb : isBk b) (hn : n ≤ 62) : Wds (lws f b z t n) ∧ (lws f b z t n).length = n := by
  unfold lws
  refine ⟨⟨fun w hw => ?_, ?_, ?_⟩, by simp⟩
  · obtain ⟨k, _, rfl⟩ := List.mem_map.mp hw
    exact (word_ok hf hb).1
  · exact nodup_map_of (fun i hi j hj e => word_inj (by have := List.mem_range.mp hi; omega) (by have := List.mem_range.mp hj; omega) e) List.nodup_range
  · simp; omega
theorem li_list {L : List CL} {nm : List Wd} : itO "Library" "kinds" (liD L nm) = some (L.map kiD) := by
  show (if "Library" = "Library" then (match lookD ["kinds", "places", "names"] [.lst (L.map kiD), plD (ttl L), .tup (stL nm)] "kinds" with | some (.lst l) => some l | _ => none) else none) = _
  rw [if_pos rfl, look_h]
end Tw

set_option maxHeartbeats 2000000
namespace Tw
open PySem
theorem look_gen : ∀ {K : List Str} {V : List D} {i : Nat} {x : Str}, K.Nodup → K.length = V.length → K[i]? = some x → lookD K V x = V[i]?
  | [], V, i, x, _, _, h => by simp at h
  | k :: K, [], i, x, _, e, _ => by simp at e
  | k :: K, v :: V, 0, x, _, _, h => by
    obtain rfl : k = x := by simpa using h
    exact look_h
  | k :: K, v :: V, i + 1, x, n, e, h => by
    obtain ⟨n1, n2⟩ := List.nodup_cons.mp n
    rw [List.getElem?_cons_succ] at h
    have hx := List.mem_of_getElem? h
    rw [look_t (fun z : x = k => n1 (by rw [← z]; exact hx)), look_gen n2 (by simpa using e) h, List.getElem?_cons_succ]
theorem rep_gen {y : D} : ∀ {K : List Str} {V : List D} {i : Nat} {x : Str}, K.Nodup → K.length = V.length → K[i]? = some x → repDv x y K V = V.set i y
  | [], V, i, x, _, _, h => by simp at h
  | k :: K, [], i, x, _, e, _ => by simp at e
  | k :: K, v :: V, 0, x, n, e, h => by
    obtain rfl : k = x := by simpa using h
    obtain ⟨n1, n2⟩ := List.nodup_cons.mp n
    have rest : ∀ {K : List Str} {V : List D}, k ∉ K → K.length = V.length → repDv k y K V = V := by
      intro K
      induction K with
      | nil => intro V _ e; cases V with
        | nil => rfl
        | cons v V => simp at e
      | cons k' K ih =>
        intro V h e
        cases V with
        | nil => simp at e
        | cons v V =>
          show (if k' = k then y else v) :: repDv k y K V = _
          rw [if_neg (fun z : k' = k => h (by rw [z]; exact List.mem_cons_self)), ih (fun z => h (List.mem_cons_of_mem _ z)) (by simpa using e)]
    show (if k = k then y else v) :: repDv k y K V = _
    rw [if_pos rfl, rest n1 (by simpa using e)]
    rfl
  | k :: K, v :: V, i + 1, x, n, e, h => by
    obtain ⟨n1, n2⟩ := List.nodup_cons.mp n
    rw [List.getElem?_cons_succ] at h
    have hx := List.mem_of_getElem? h
    show (if k = x then y else v) :: repDv x y K V = _
    rw [if_neg (fun z : k = x => n1 (by rw [z]; exact hx)), rep_gen n2 (by simpa using e) h]
    rfl
theorem putd_s {i : Nat} {k e : DE} {ρ : DEnv} {ks : List Str} {vs : List D} {s : Str} {v : D} (he : e ρ = .ok v) (hi : ρ[i]? = some (some (.own (.dct ks vs)))) (hk : k ρ = .ok (.str s)) (hl : ks.length < 1000000) : sPutD i k e ρ = .ok (.nx (ρ.set i (some (.own (.dct (dPutK s ks) (dPutV s v ks vs)))))) := by
  unfold sPutD; rw [he]; simp only [R.st_ok, hi, hk, if_pos (Nat.lt_trans hl (show 1000000 < lineD by decide))]
theorem putadd_s {i : Nat} {k e : DE} {ρ : DEnv} {ks : List Str} {vs : List D} {s : Str} {a b : Int} (hi : ρ[i]? = some (some (.own (.dct ks vs)))) (hk : k ρ = .ok (.str s)) (hs : lookD ks vs s = some (.int a)) (he : e ρ = .ok (.int b)) (hl : ks.length < 1000000) : sPutAdd i k e ρ = .ok (.nx (ρ.set i (some (.own (.dct (dPutK s ks) (dPutV s (.int (a + b)) ks vs)))))) := by
  unfold sPutAdd; simp only [hi, hk, R.st_ok, hs, he, if_pos (Nat.lt_trans hl (show 1000000 < lineD by decide))]
def keysOf (ws : List Wd) (n : Nat) : List Str := (wmap ws (List.range n)).map S
theorem keysOf_len {ws : List Wd} {n : Nat} : (keysOf ws n).length = n := by unfold keysOf wmap; simp
theorem keysOf_get {ws : List Wd} {n i : Nat} (h : i < n) : (keysOf ws n)[i]? = some (S (ws.getD i [])) := by
  unfold keysOf wmap; rw [List.getElem?_map, List.getElem?_map, List.getElem?_range h]; rfl
theorem keysOf_nd {ws : List Wd} {n : Nat} (nd : ws.Nodup) (h : n ≤ ws.length) : (keysOf ws n).Nodup := by
  unfold keysOf wmap
  rw [List.map_map]
  refine nodup_map_of (fun a ha b hb e => ?_) List.nodup_range
  have ha := List.mem_range.mp ha
  have hb := List.mem_range.mp hb
  exact winj nd (by omega) (by omega) (S_inj e)
theorem keysOf_succ {ws : List Wd} {n : Nat} : keysOf ws (n + 1) = keysOf ws n ++ [S (ws.getD n [])] := by
  unfold keysOf wmap; rw [List.range_succ, List.map_append, List.map_append]; rfl
/-- numbers by title -/
def dC (ws : List Wd) (T : List Int) : D := .dct (keysOf ws T.length) (T.map D.int)
section
variable {ws : List Wd} {T : List Int}
theorem dC_look (nd : ws.Nodup) (h : T.length ≤ ws.length) {i : Nat} (hi : i < T.length) : lookD (keysOf ws T.length) (T.map D.int) (S (ws.getD i [])) = some (.int (T.getD i 0)) := by
  rw [look_gen (keysOf_nd nd h) (by rw [keysOf_len, List.length_map]) (keysOf_get hi), List.getElem?_map, getD_some hi]
  rfl
theorem dC_new (nd : ws.Nodup) (h : T.length < ws.length) (x : Int) : D.dct (dPutK (S (ws.getD T.length [])) (keysOf ws T.length)) (dPutV (S (ws.getD T.length [])) (.int x) (keysOf ws T.length) (T.map D.int)) = dC ws (T ++ [x]) := by
  have hn : S (ws.getD T.length []) ∉ keysOf ws T.length := fun z => by
    obtain ⟨w, hw, e⟩ := List.mem_map.mp z
    obtain ⟨i, hi, rfl⟩ := List.mem_map.mp hw
    have hi := List.mem_range.mp hi
    have := winj nd (by omega) h (S_inj e)
    omega
  unfold dPutK dPutV dC
  rw [if_neg hn, if_neg hn, List.length_append, List.length_singleton, keysOf_succ, List.map_append]
  rfl
theorem dC_upd (nd : ws.Nodup) (h : T.length < ws.length) (a x : Int) : D.dct (dPutK (S (ws.getD T.length [])) (keysOf ws (T ++ [a]).length)) (dPutV (S (ws.getD T.length [])) (.int x) (keysOf ws (T ++ [a]).length) ((T ++ [a]).map D.int)) = dC ws (T ++ [x]) := by
  have e : (T ++ [a]).length = T.length + 1 := by simp
  have g := keysOf_get (ws := ws) (n := (T ++ [a]).length) (i := T.length) (by omega)
  have hm := List.mem_of_getElem? g
  unfold dPutK dPutV dC
  rw [if_pos hm, if_pos hm, rep_gen (keysOf_nd nd (by omega)) (by rw [keysOf_len, List.length_map]) g]
  have e2 : (T ++ [x]).length = (T ++ [a]).length := by simp
  rw [e2]
  congr 1
  rw [List.map_append, List.map_append, List.set_append_right _ _ (by simp)]
  simp
end
def cnL (T : List Int) (ls : List Lnk) (a : Int) : Int := ls.foldl (fun a l => if l.2 then a else a + T.getD l.1 0) a
def cnTab (P : List Pn) (b : Nat) : Nat → List Int
  | 0 => []
  | k + 1 => cnTab P b k ++ [cnL (cnTab P b k) (lks P k) (if k = b then 1 else 0)]
theorem cnTab_len {P : List Pn} {b : Nat} : ∀ k, (cnTab P b k).length = k
  | 0 => rfl
  | k + 1 => by unfold cnTab; rw [List.length_append, cnTab_len k]; rfl
theorem truD_b (a : Bool) : truD (.bl a) = some a := rfl
section
variable {ws lb nm : List Wd} {P : List Pn} {L : D} {b k : Nat}
theorem ow_loop1 (hw : Wds ws) {T : List Int} (hT : T.length < ws.length) (hk : T.length = k) {c : CL} (hc : c.r.t = ws.getD k []) : ∀ (ls : List Lnk) (a : Int), (∀ l ∈ ls, l.1 < k) →
    forL (gVar 4) [4] b_own_way_counts_1 (ls.map fun l => bD (ws.getD l.1 [], l.2)) [some (.val L), some (.val (.str (S (ws.getD b [])))), some (.own (dC ws (T ++ [a]))), some (.val (kiD c)), none] =
      .ok (.nx [some (.val L), some (.val (.str (S (ws.getD b [])))), some (.own (dC ws (T ++ [cnL T ls a]))), some (.val (kiD c)), none])
  | [], a, _ => by rw [List.map_nil, f_n]; rfl
  | l :: ls, a, h => by
    have hl := h l List.mem_cons_self
    have ih := fun a => ow_loop1 hw hT hk hc ls a fun x hx => h x (List.mem_cons_of_mem _ hx)
    have h4 := hw.l
    have eT : (T ++ [a]).length = T.length + 1 := by simp
    have st : b_own_way_counts_1 [some (.val L), some (.val (.str (S (ws.getD b [])))), some (.own (dC ws (T ++ [a]))), some (.val (kiD c)), some (.val (bD (ws.getD l.1 [], l.2)))] =
        .ok (.nx [some (.val L), some (.val (.str (S (ws.getD b [])))), some (.own (dC ws (T ++ [if l.2 then a else a + T.getD l.1 0]))), some (.val (kiD c)), some (.val (bD (ws.getD l.1 [], l.2)))]) := by
      unfold b_own_way_counts_1
      cases h2 : l.2 with
      | true =>
        simp -implicitDefEqProofs (disch := (first | assumption | omega | (simp only [ngs]; done) | decide)) only [ev, R.bind_ok, R.bind_ex, R.st_ok, R.st_ex, R.of_some, List.length_map, bD_sh, truD_b]
        rfl
      | false =>
        have lk1 := dC_look (T := T ++ [a]) hw.nd (by omega) (i := k) (by omega)
        have lk2 := dC_look (T := T ++ [a]) hw.nd (by omega) (i := l.1) (by omega)
        have g1 : (T ++ [a]).getD k 0 = a := by rw [List.getD_eq_getElem?_getD, List.getElem?_append_right (by omega), hk, Nat.sub_self]; rfl
        have g2 : (T ++ [a]).getD l.1 0 = T.getD l.1 0 := by rw [List.getD_eq_getElem?_getD, List.getElem?_append_left (by omega), ← List.getD_eq_getElem?_getD]
        rw [g1] at lk1
        rw [g2] at lk2
        have ix : oIx (dC ws (T ++ [a])) (.str (S (ws.getD l.1 []))) = some (.int (T.getD l.1 0)) := by unfold dC; rw [p_ixd]; exact lk2
        have up := dC_upd hw.nd hT a (a + T.getD l.1 0)
        rw [hk] at up
        have pa : sPutAdd 2 (e1 (oFld "title") (eVar 3)) (e2 oIx (eLook 2) (e1 (oFld "title") (eVar 4))) [some (.val L), some (.val (.str (S (ws.getD b [])))), some (.own (dC ws (T ++ [a]))), some (.val (kiD c)), some (.val (bD (ws.getD l.1 [], false)))] =
            .ok (.nx [some (.val L), some (.val (.str (S (ws.getD b [])))), some (.own (dC ws (T ++ [a + T.getD l.1 0]))), some (.val (kiD c)), some (.val (bD (ws.getD l.1 [], false)))]) := by
          rw [putadd_s (ks := keysOf ws (T ++ [a]).length) (vs := (T ++ [a]).map D.int) (s := S (ws.getD k [])) (a := a) (b := T.getD l.1 0) rfl (by simp -implicitDefEqProofs (disch := (first | assumption | omega | (simp only [ngs]; done) | decide)) only [ev, R.bind_ok, R.bind_ex, R.st_ok, R.st_ex, R.of_some, List.length_map, ki_t, hc]) lk1 (by simp -implicitDefEqProofs (disch := (first | assumption | omega | (simp only [ngs]; done) | decide)) only [ev, R.bind_ok, R.bind_ex, R.st_ok, R.st_ex, R.of_some, List.length_map, bD_title, ix]) (by rw [keysOf_len]; omega), up]
          rfl
        simp -implicitDefEqProofs (disch := (first | assumption | omega | (simp only [ngs]; done) | decide)) only [ev, R.bind_ok, R.bind_ex, R.st_ok, R.st_ex, R.of_some, List.length_map, bD_sh, truD_b, pa]
        rfl
    rw [List.map_cons, f_c]
    simp -implicitDefEqProofs (disch := (first | assumption | omega | (simp only [ngs]; done) | decide)) only [ev, R.bind_ok, R.bind_ex, R.st_ok, R.st_ex, R.of_some, List.length_map, st, ih]
    rfl
theorem S_beq' (a b : Wd) : (S a == S b) = decide (a = b) := by
  by_cases h : a = b
  · subst h; rw [decide_eq_true rfl]; exact beq_self_eq_true _
  · rw [decide_eq_false h]; exact beq_eq_false_iff_ne.mpr fun e => h (S_inj e)
theorem ow_step (hw : Wds ws) (ho : PlanOk lb.length P) (hP : P.length ≤ ws.length) (hk : k < P.length) (hb : b < P.length) :
    b_own_way_counts_2 [some (.val L), some (.val (.str (S (ws.getD b [])))), some (.own (dC ws (cnTab P b k))), some (.val (kiD (clOf ws lb P k))), none] =
      .ok (.nx [some (.val L), some (.val (.str (S (ws.getD b [])))), some (.own (dC ws (cnTab P b (k + 1)))), some (.val (kiD (clOf ws lb P k))), none]) := by
  have hl := cnTab_len (P := P) (b := b) k
  have h4 := hw.l
  have hp : P[k]? = some P[k] := List.getElem?_eq_getElem hk
  generalize P[k]'hk = p at hp
  have hd : P.getD k ⟨[], []⟩ = p := by rw [List.getD_eq_getElem?_getD, hp]; rfl
  have ct : (clOf ws lb P k).r.t = ws.getD k [] := rfl
  have cb : (clOf ws lb P k).r.bs = p.ls.map fun l => (ws.getD l.1 [], l.2) := by
    show (prDr ws lb k (P.getD k ⟨[], []⟩)).bs = _
    rw [hd]; rfl
  have bm : (clOf ws lb P k).r.bs.map bD = p.ls.map fun l => bD (ws.getD l.1 [], l.2) := by rw [cb, List.map_map]; rfl
  rw [show cnTab P b (k + 1) = cnTab P b k ++ [cnL (cnTab P b k) (lks P k) (if k = b then 1 else 0)] from rfl, lks_get hp]
  generalize hT : cnTab P b k = T at *
  have nw := fun x => dC_new (T := T) hw.nd (by omega) x
  have up := fun a x => dC_upd (T := T) hw.nd (by omega) a x
  rw [hl] at nw up
  have lp := fun a => ow_loop1 (L := L) (b := b) (k := k) hw (T := T) (by omega) hl (c := clOf ws lb P k) ct p.ls a (ho k p hp).lt
  have p1 : sPutD 2 (e1 (oFld "title") (eVar 3)) (eC (.int 0)) [some (.val L), some (.val (.str (S (ws.getD b [])))), some (.own (dC ws T)), some (.val (kiD (clOf ws lb P k))), none] =
      .ok (.nx [some (.val L), some (.val (.str (S (ws.getD b [])))), some (.own (dC ws (T ++ [0]))), some (.val (kiD (clOf ws lb P k))), none]) := by
    rw [putd_s (ks := keysOf ws T.length) (vs := T.map D.int) (s := S (ws.getD k [])) (v := .int 0) rfl rfl (by simp -implicitDefEqProofs (disch := (first | assumption | omega | (simp only [ngs]; done) | decide)) only [ev, R.bind_ok, R.bind_ex, R.st_ok, R.st_ex, R.of_some, List.length_map, ki_t, ct]) (by rw [keysOf_len]; omega), hl, nw]
    rfl
  have it : iterD (.tup (p.ls.map fun l => bD (ws.getD l.1 [], l.2))) = some (p.ls.map fun l => bD (ws.getD l.1 [], l.2)) := rfl
  unfold b_own_way_counts_2
  by_cases e : k = b
  · have p2 : sPutD 2 (eVar 1) (eC (.int 1)) [some (.val L), some (.val (.str (S (ws.getD b [])))), some (.own (dC ws (T ++ [0]))), some (.val (kiD (clOf ws lb P k))), none] =
        .ok (.nx [some (.val L), some (.val (.str (S (ws.getD b [])))), some (.own (dC ws (T ++ [1]))), some (.val (kiD (clOf ws lb P k))), none]) := by
      have up := up 0 1
      rw [e] at up
      rw [putd_s (ks := keysOf ws (T ++ [0]).length) (vs := (T ++ [0]).map D.int) (s := S (ws.getD b [])) (v := .int 1) rfl rfl rfl (by rw [keysOf_len]; simp; omega), up]
      rfl
    have c : decide (ws.getD k [] = ws.getD b []) = true := decide_eq_true (by rw [e])
    simp -implicitDefEqProofs (disch := (first | assumption | omega | (simp only [ngs]; done) | decide)) only [ev, R.bind_ok, R.bind_ex, R.st_ok, R.st_ex, R.of_some, List.length_map, p1, ki_t, ct, S_beq', c, p2, ki_b, bm, lp]
    rw [if_pos e]
  · have c : decide (ws.getD k [] = ws.getD b []) = false := decide_eq_false fun z => e (winj hw.nd (by omega) (by omega) z)
    simp -implicitDefEqProofs (disch := (first | assumption | omega | (simp only [ngs]; done) | decide)) only [ev, R.bind_ok, R.bind_ex, R.st_ok, R.st_ex, R.of_some, List.length_map, p1, ki_t, ct, S_beq', c, ki_b, bm, lp]
    rw [if_neg e]
theorem ow_loop (hw : Wds ws) (ho : PlanOk lb.length P) (hP : P.length ≤ ws.length) (hb : b < P.length) : ∀ (N k : Nat), k + N ≤ P.length →
    forL (gVar 3) [3, 4] b_own_way_counts_2 ((List.range' k N).map fun i => kiD (clOf ws lb P i)) [some (.val L), some (.val (.str (S (ws.getD b [])))), some (.own (dC ws (cnTab P b k))), none, none] =
      .ok (.nx [some (.val L), some (.val (.str (S (ws.getD b [])))), some (.own (dC ws (cnTab P b (k + N)))), none, none])
  | 0, k, _ => by rw [List.range'_zero, List.map_nil, f_n]; rfl
  | N + 1, k, h => by
    have st := ow_step (L := L) (k := k) hw ho hP (by omega) hb
    have ih := ow_loop hw ho hP hb N (k + 1) (by omega)
    rw [List.range'_succ, List.map_cons, f_c]
    simp -implicitDefEqProofs (disch := (first | assumption | omega | (simp only [ngs]; done) | decide)) only [ev, R.bind_ok, R.bind_ex, R.st_ok, R.st_ex, R.of_some, List.length_map, st, ih]
    rw [show k + 1 + N = k + (N + 1) by omega]
theorem own_way_ok (hw : Wds ws) (ho : PlanOk lb.length P) (hP : P.length ≤ ws.length) (hb : b < P.length) : d_own_way_counts [liD (clsOf ws lb P P.length) nm, .str (S (ws.getD b []))] = .ok (dC ws (cnTab P b P.length)) := by
  have lp := ow_loop (L := liD (clsOf ws lb P P.length) nm) hw ho hP hb P.length 0 (by omega)
  rw [← List.range_eq_range', Nat.zero_add] at lp
  have e0 : D.dct [] [] = dC ws (cnTab P b 0) := rfl
  have li := li_list (L := clsOf ws lb P P.length) (nm := nm)
  have lm : (clsOf ws lb P P.length).map kiD = (List.range P.length).map fun i => kiD (clOf ws lb P i) := by unfold clsOf; rw [List.map_map]; rfl
  rw [lm] at li
  rw [e_own_way_counts]
  unfold b_own_way_counts
  simp -implicitDefEqProofs (disch := (first | assumption | omega | (simp only [ngs]; done) | decide)) only [ev, R.bind_ok, R.bind_ex, R.st_ok, R.st_ex, R.of_some, List.length_map, e0, li, lp]
theorem getitem_ok {n : Nat} (hw : Wds ws) (hn : n ≤ ws.length) (hk : k < n) : d_Library_getitem [liD (clsOf ws lb P n) nm, .str (S (ws.getD k []))] = .ok (kiD (clOf ws lb P k)) := by
  have hm : ws.getD k [] ∈ ttl (clsOf ws lb P n) := by
    rw [ttl_cls]; exact List.mem_map.mpr ⟨k, List.mem_range.mpr hk, rfl⟩
  obtain ⟨c, h1, h2, h3, h4⟩ := fnd_spec hm
  have e := fnd_cls (lb := lb) (P := P) hw hn hk
  rw [h1] at e
  have e := Option.some.inj e
  have f1 : oFld "places" (liD (clsOf ws lb P n) nm) = some (plD (ttl (clsOf ws lb P n))) := by rw [liD, p_fld, look_t (by decide +kernel), look_h]
  have f2 : oFld "kinds" (liD (clsOf ws lb P n) nm) = some (.lst ((clsOf ws lb P n).map kiD)) := by rw [liD, p_fld, look_h]
  have n1 := oNotIn_of (oIn_plD (ws.getD k []) (ttl (clsOf ws lb P n)))
  rw [decide_eq_true hm] at n1
  have ix := oIx_plD hm
  have hki : ((clsOf ws lb P n).map kiD)[(ttl (clsOf ws lb P n)).idxOf (ws.getD k [])]? = some (kiD (clOf ws lb P k)) := by rw [List.getElem?_map, h4, e]; rfl
  rw [e_Library_getitem]
  unfold b_Library_getitem
  simp -implicitDefEqProofs (disch := (first | assumption | omega | (simp only [ngs]; done) | decide)) only [ev, R.bind_ok, R.bind_ex, R.st_ok, R.st_ex, R.of_some, List.length_map, f1, f2, n1, ix, hki]
theorem contains_ok {n : Nat} (hw : Wds ws) (hn : n ≤ ws.length) (hk : k < n) : d_Library_contains [liD (clsOf ws lb P n) nm, .str (S (ws.getD k []))] = .ok (.bl true) := by
  have hm : ws.getD k [] ∈ ttl (clsOf ws lb P n) := by
    rw [ttl_cls]; exact List.mem_map.mpr ⟨k, List.mem_range.mpr hk, rfl⟩
  have f1 : oFld "places" (liD (clsOf ws lb P n) nm) = some (plD (ttl (clsOf ws lb P n))) := by rw [liD, p_fld, look_t (by decide +kernel), look_h]
  have n1 := oIn_plD (ws.getD k []) (ttl (clsOf ws lb P n))
  rw [decide_eq_true hm] at n1
  rw [e_Library_contains]
  unfold b_Library_contains
  simp -implicitDefEqProofs (disch := (first | assumption | omega | (simp only [ngs]; done) | decide)) only [ev, R.bind_ok, R.bind_ex, R.st_ok, R.st_ex, R.of_some, List.length_map, f1, n1]
theorem ixo_li (d : List D → R D) (L : List CL) (nm : List Wd) (y : D) : ixoS "Library" d (liD L nm) y = d [liD L nm, y] := ixo_o
theorem rmn_li (d : List D → R D) (L : List CL) (nm : List Wd) (x : D) : rmnS "Library" d x (liD L nm) = (d [liD L nm, x]).bind nblS := rmn_o
theorem sum_ints (l : List Int) : oSum (.lst (l.map D.int)) = some (.int l.sum) := by
  have : intsD (l.map D.int) = some l := by
    induction l with
    | nil => rfl
    | cons a l ih => rw [List.map_cons]; unfold intsD; rw [ih]; rfl
  show (match intsD (l.map D.int) with | some ns => some (D.int ns.sum) | none => none) = _
  rw [this]
/-- how many copies of b stand in an object of t -/
noncomputable def cc (P : List Pn) (t b : Nat) : Int := (cnTab P b P.length).getD t 0 + ((shI P t).map fun k => (cnTab P b P.length).getD k 0).sum
theorem count_ok {t : Nat} (hw : Wds ws) (ho : PlanOk lb.length P) (hP : P.length ≤ ws.length) (ht : t < P.length) (hb : b < P.length) : d_count_copies [liD (clsOf ws lb P P.length) nm, .str (S (ws.getD t [])), .str (S (ws.getD b []))] = .ok (.int (cc P t b)) := by
  have gi := getitem_ok (lb := lb) (P := P) (nm := nm) hw hP ht
  have co := contains_ok (lb := lb) (P := P) (nm := nm) hw hP hb
  have ow := own_way_ok (nm := nm) hw ho hP hb
  have hl := cnTab_len (P := P) (b := b) P.length
  have h4 := hw.l
  have ix : ∀ i, i < P.length → oIx (dC ws (cnTab P b P.length)) (.str (S (ws.getD i []))) = some (.int ((cnTab P b P.length).getD i 0)) := fun i hi => by
    unfold dC; rw [p_ixd]; exact dC_look hw.nd (by omega) (by omega)
  have ixt := ix t ht
  have it : iterD (.tup (stL (clOf ws lb P t).sh)) = some (stL (clOf ws lb P t).sh) := rfl
  have shl : (shI P t).length ≤ 1000000 := by
    have := List.length_filter_le (fun x => decide (Sh P t x)) (List.range t)
    rw [List.length_range] at this
    unfold shI
    omega
  have cm : ∀ a1 a2 a3, compS (gVar 5) tYesD (e2 oIx (eVar 4) (eVar 5)) [5] [a1, a2, a3, some (.val (kiD (clOf ws lb P t))), some (.val (dC ws (cnTab P b P.length))), none] (stL (clOf ws lb P t).sh) = .ok (.lst (((shI P t).map fun k => (cnTab P b P.length).getD k 0).map D.int)) := by
    intro a1 a2 a3
    have e1 : stL (clOf ws lb P t).sh = (shI P t).map fun k => D.str (S (ws.getD k [])) := by
      show stL (wmap ws (shI P t)) = _
      unfold stL wmap
      rw [List.map_map]; rfl
    rw [e1, comp_map (fun k : Nat => D.str (S (ws.getD k []))) (fun k => .int ((cnTab P b P.length).getD k 0)) shl rfl (fun k hk => by
      have := ((mem_shI ho).mp hk).lt ho
      have x := ix k (by omega)
      unfold cStep
      simp -implicitDefEqProofs (disch := (first | assumption | omega | (simp only [ngs]; done) | decide)) only [ev, R.bind_ok, R.bind_ex, R.st_ok, R.st_ex, R.of_some, List.length_map, x, if_true]), List.map_map]
    rfl
  rw [e_count_copies]
  unfold b_count_copies
  simp -implicitDefEqProofs (disch := (first | assumption | omega | (simp only [ngs]; done) | decide)) only [ev, R.bind_ok, R.bind_ex, R.st_ok, R.st_ex, R.of_some, List.length_map, ixo_li, gi, rmn_li, co, ow, ixt, ki_sh, it, cm, sum_ints]
  rfl
end
end Tw

set_option maxHeartbeats 2000000
namespace Tw
open PySem
def lst (q : List Nat) : Nat := q.getLast?.getD 0
/-- a way: own steps down -/
def Vw (P : List Pn) (n : Nat) : List Nat → Prop
  | [] => False
  | [a] => a < n
  | a :: b :: r => a < n ∧ (b, false) ∈ lks P a ∧ Vw P n (b :: r)
theorem Vw.ne {P : List Pn} {n : Nat} {q : List Nat} (h : Vw P n q) : q ≠ [] := fun e => by rw [e] at h; exact h
theorem sub_rng {a b : Nat} (h : a ≤ b) : (List.range a).reverse.Sublist (List.range b).reverse := by
  induction b with
  | zero => have : a = 0 := by omega
            subst this; exact List.Sublist.slnil
  | succ b ih =>
    by_cases e : a = b + 1
    · subst e; exact List.Sublist.refl _
    · rw [List.range_succ, List.reverse_append]
      exact (ih (by omega)).cons _
theorem Vw.sub {P : List Pn} {m n : Nat} (ho : PlanOk m P) : ∀ {q : List Nat} {b : Nat}, Vw P n q → (∀ a r, q = a :: r → a < b) → q.Sublist (List.range b).reverse
  | [], _, h, _ => h.elim
  | [a], b, h, hb => by
    have := hb a [] rfl
    have s := sub_rng (show a + 1 ≤ b by omega)
    rw [List.range_succ, List.reverse_append] at s
    exact ((List.nil_sublist _).cons₂ a).trans s
  | a :: c :: r, b, h, hb => by
    have := hb a _ rfl
    have s := sub_rng (show a + 1 ≤ b by omega)
    rw [List.range_succ, List.reverse_append] at s
    exact ((Vw.sub ho (b := a) h.2.2 (fun x y e => by cases e; exact lks_lt ho h.2.1)).cons₂ a).trans s
section
variable {P : List Pn} {m n : Nat}
end
section
variable {P : List Pn} {m n : Nat} {a0 a1 : Option Slot}
end
end Tw

set_option maxHeartbeats 2000000
namespace Tw
open PySem
section
variable {P : List Pn} {m n : Nat}
end
def tld (ws : List Wd) (q : List Nat) : D := .tup (stL (wmap ws q))
section
variable {P : List Pn} {n : Nat} {ws lb nm : List Wd}
theorem Vw.all (ho : PlanOk lb.length P) {q : List Nat} (h : Vw P n q) : (∀ k ∈ q, k < n) ∧ q.length ≤ n := by
  have s := h.sub ho (b := n) fun a r e => by
    rw [e] at h
    cases r with
    | nil => exact h
    | cons b r => exact h.1
  refine ⟨fun k hk => ?_, ?_⟩
  · have := s.subset hk
    rw [List.mem_reverse, List.mem_range] at this
    exact this
  · have := s.length_le
    rwa [List.length_reverse, List.length_range] at this
end
end Tw

set_option maxHeartbeats 2000000
namespace Tw
open PySem
/-- the class j declares x; declares it static -/
def dcl (ws lb : List Wd) (P : List Pn) (x : Wd) (j : Nat) : Bool := decide (x ∈ (prDr ws lb j (P.getD j ⟨[], []⟩)).ns) || decide (x ∈ (prDr ws lb j (P.getD j ⟨[], []⟩)).ss)
/-- the first way that clashes with the first one -/
def clash (st : Nat → Bool) (a b : List Nat) : Bool := !decide (lst b = lst a) || !st (lst b)
def pickW (st : Nat → Bool) : List (List Nat) → List (List Nat)
  | [] => []
  | a :: F => match F.find? (clash st a) with
    | some b => [a, b]
    | none => [a]
def wayD (ws : List Wd) (F : List (List Nat)) : List D := F.map (tld ws)
section
variable {ws lb nm : List Wd} {P : List Pn} {n : Nat}
end
end Tw

set_option maxHeartbeats 2000000
namespace Tw
open PySem
/-- the ways that are seen in the own part, at most two -/
def vsL (st : Nat → Bool) (dc : Nat → Bool) (T : List (List (List Nat))) (ls : List Lnk) (k : Nat) : List (List Nat) :=
  pickW st (if dc k then [[k]] else (ls.filter fun l => !l.2).flatMap fun l => (T.getD l.1 []).map (k :: ·))
def vsTab (st dc : Nat → Bool) (P : List Pn) : Nat → List (List (List Nat))
  | 0 => []
  | k + 1 => vsTab st dc P k ++ [vsL st dc (vsTab st dc P k) (lks P k) k]
/-- ways by title -/
def dV (ws : List Wd) (T : List (List (List Nat))) : D := .dct (keysOf ws T.length) (T.map fun F => .lst (wayD ws F))
section
variable {ws lb nm : List Wd} {P : List Pn}
end
end Tw

set_option maxHeartbeats 2000000
namespace Tw
open PySem
section
variable {ws lb nm : List Wd} {P : List Pn} {n k : Nat} {x : Wd}
end
end Tw

set_option maxHeartbeats 2000000
namespace Tw
open PySem
theorem kindle_ok (a b : CL) : d_Kind_le [kiD a, kiD b] = .ok (.bl (decide (a.r.t = b.r.t) || decide (a.r.t ∈ b.ab))) := by
  rw [e_Kind_le]
  unfold b_Kind_le
  have h := oIn_tup a.r.t b.ab
  cases e : decide (a.r.t = b.r.t) with
  | true =>
    simp -implicitDefEqProofs (disch := (first | assumption | omega | (simp only [ngs]; done) | decide)) only [ev, R.bind_ok, R.bind_ex, R.st_ok, R.st_ex, R.of_some, List.length_map, ki_t, ki_a, h, S_beq', e]
    rfl
  | false =>
    simp -implicitDefEqProofs (disch := (first | assumption | omega | (simp only [ngs]; done) | decide)) only [ev, R.bind_ok, R.bind_ex, R.st_ok, R.st_ex, R.of_some, List.length_map, ki_t, ki_a, h, S_beq', e]
    rw [Bool.false_or]
theorem op_kind (d : List D → R D) (a b : CL) : opS "Kind" ["Kind"] d (kiD a) (kiD b) = d [kiD a, kiD b] := op_o
/-- j is the class t or above it -/
noncomputable def leB (P : List Pn) (t j : Nat) : Bool := decide (j = t) || decide (Ab P t j)
/-- what the declarations of a name hide -/
noncomputable def hidL (P : List Pn) (dc : Nat → Bool) (t : Nat) (js : List Nat) : List Nat := (js.filter fun j => leB P t j && dc j).flatMap (shI P)
noncomputable def orL (P : List Pn) (dc : Nat → Bool) (t n : Nat) : List Nat := (shI P t).filter fun r => !decide (r ∈ hidL P dc t (List.range n))
section
variable {ws lb nm : List Wd} {P : List Pn} {n t : Nat} {x : Wd}
end
end Tw

set_option maxHeartbeats 2000000
namespace Tw
open PySem
/-- all that is looked at: the own part, then the open shared bases -/
noncomputable def seen (st dc : Nat → Bool) (P : List Pn) (t : Nat) : List (List Nat) := (vsTab st dc P P.length).getD t [] ++ (orL P dc t P.length).flatMap fun r => (vsTab st dc P P.length).getD r []
section
variable {ws lb nm : List Wd} {P : List Pn} {n t : Nat} {x : Wd}
end
end Tw

set_option maxHeartbeats 2000000
namespace Tw
/-- A tells what F tells -/
structure Thin (st : Nat → Bool) (A F : List (List Nat)) : Prop where
  sub : ∀ q ∈ A, q ∈ F
  ne : A = [] → F = []
  one : A.length ≤ 1 → ∀ q ∈ F, ∀ r ∈ F, q ≠ r → lst q = lst r ∧ st (lst q) = true
  two : 2 ≤ A.length → ∃ a b, A = [a, b] ∧ a ∈ F ∧ b ∈ F ∧ clash st a b = true ∧ a ≠ b
end Tw

set_option maxHeartbeats 2000000
namespace Tw
theorem Thin.nd {st : Nat → Bool} {A F : List (List Nat)} (h : Thin st A F) : A.Nodup := by
  rcases Nat.lt_or_ge A.length 2 with h1 | h1
  · match A, h1 with
    | [], _ => exact List.nodup_nil
    | [a], _ => exact List.nodup_cons.mpr ⟨fun z => (by cases z), List.nodup_nil⟩
    | a :: b :: A, h1 => simp only [List.length_cons] at h1; omega
  · obtain ⟨a, b, rfl, _, _, _, hab⟩ := h.two h1
    exact List.nodup_cons.mpr ⟨fun z => hab (List.mem_singleton.mp z), List.nodup_cons.mpr ⟨fun z => (by cases z), List.nodup_nil⟩⟩
section
variable {P : List Pn} {m n : Nat} {st dc : Nat → Bool}
end
end Tw

set_option maxHeartbeats 2000000
namespace Tw
section
variable {P : List Pn} {m t : Nat} {st dc : Nat → Bool}
end
end Tw

set_option maxHeartbeats 2000000
namespace Tw
open PySem
theorem shp_str {w : Wd} (h : isW w = true) (k : Nat) : shp k (.str (S w)) = true := by
  have := shp_wds (l := [w]) (fun x hx => by rw [List.mem_singleton.mp hx]; exact h)
  have h2 : strOkD (S w) = true := by
    have : (shp 59 (.str (S w)) && true) = true := this
    rw [Bool.and_true] at this
    exact this
  cases k <;> exact h2
end Tw

set_option maxHeartbeats 2000000
namespace Tw
open PySem
def mk (P : List Pn) (mi j : Nat) : Int := (P.getD j ⟨[], []⟩).ms.getD mi 0
section
variable {P : List Pn} {m mi t : Nat} {ws lb nm : List Wd}
end
end Tw

set_option maxHeartbeats 2000000
namespace Tw
open PySem
theorem lineD_big {n : Nat} (h : n ≤ 1000000) : n ≤ lineD := Nat.le_trans h (by decide)
section
variable {s nd sd : D}
end
end Tw

set_option maxHeartbeats 2000000
namespace Tw
open PySem
/-- B tells of L: none, one, more than one, all the same -/
structure BkW (B L : List Nat) : Prop where
  ln : B.length ≤ L.length
  two : min 2 L.length ≤ B.length
  all : ∀ y, (∀ x ∈ B, x = y) → ∀ z ∈ L, z = y
  sub : ∀ x ∈ B, x ∈ L
structure BkT (B L : List Nat) : Prop extends BkW B L where
  thr : 3 ≤ B.length → ∃ a ∈ B, ∃ b ∈ B, a ≠ b
  few : B.length ≤ 3
theorem BkT.nil : BkT [] [] := ⟨⟨Nat.le_refl _, Nat.le_refl _, fun _ _ z h => (by cases h), fun _ h => (by cases h)⟩, fun h => (by simp at h), Nat.zero_le _⟩
theorem BkT.one (x : Nat) : BkT [x] [x] := ⟨⟨Nat.le_refl _, by simp, fun _ h => h, fun _ h => h⟩, fun h => (by simp at h), by simp⟩
theorem BkW.app2 {B L B2 L2 : List Nat} (h : BkW B L) (k : BkW B2 L2) : BkW (B ++ B2) (L ++ L2) := by
  have h1 := h.ln
  have h2 := h.two
  have k1 := k.ln
  have k2 := k.two
  refine ⟨by simp; omega, by simp; omega, fun y hy z hz => ?_, fun z hz => ?_⟩
  · rcases List.mem_append.mp hz with hz | hz
    · exact h.all y (fun b hb => hy b (List.mem_append_left _ hb)) z hz
    · exact k.all y (fun b hb => hy b (List.mem_append_right _ hb)) z hz
  · rcases List.mem_append.mp hz with hz | hz
    · exact List.mem_append_left _ (h.sub z hz)
    · exact List.mem_append_right _ (k.sub z hz)
section
variable {P : List Pn} {m mi : Nat} {dc : Nat → Bool}
variable {a0 a1 a2 a3 a5 : Option Slot}
def ttD (T : List (List Nat)) : D := .lst (T.map fun l => .lst (niL l))
theorem tt_at {T : List (List Nat)} {k : Nat} (h : k < T.length) : (T.map fun l => D.lst (niL l))[k]? = some (.lst (niL (T.getD k []))) := by
  rw [List.getElem?_map, List.getD_eq_getElem?_getD, List.getElem?_eq_getElem h]; rfl
end
end Tw

set_option maxHeartbeats 2000000
namespace Tw
open PySem
/-- a text of true signs, no long one -/
def Gd (w : Wd) : Prop := w.length ≤ 100 ∧ ∀ c ∈ w, c < 0x110000
theorem Gd.ok {w : Wd} (h : Gd w) : strOkD (S w) = true := by
  unfold strOkD S
  simp only [List.all_toArray, List.all_eq_true, decide_eq_true_eq]
  exact h.2
theorem Gd.shp {w : Wd} (h : Gd w) (k : Nat) : shp k (.str (S w)) = true := by cases k <;> exact h.ok
theorem gd_W {w : Wd} (h : isW w = true) : Gd w := by
  refine ⟨by have := isW_len h; omega, fun c hc => ?_⟩
  have := shp_str h 0
  have this : strOkD (S w) = true := this
  unfold strOkD S at this
  simp only [List.all_toArray, List.all_eq_true, decide_eq_true_eq] at this
  exact this c hc
theorem Gd.cons {c : Nat} {w : Wd} (hc : c < 0x110000) (hw : isW w = true) : Gd (c :: w) := by
  refine ⟨by have := isW_len hw; rw [List.length_cons]; omega, fun x hx => ?_⟩
  rcases List.mem_cons.mp hx with rfl | hx
  · exact hc
  · exact (gd_W hw).2 x hx
theorem Gd.snoc {c : Nat} {w : Wd} (hc : c < 0x110000) (hw : isW w = true) : Gd (w ++ [c]) := by
  refine ⟨by have := isW_len hw; rw [List.length_append, List.length_singleton]; omega, fun x hx => ?_⟩
  rcases List.mem_append.mp hx with hx | hx
  · exact (gd_W hw).2 x hx
  · rw [List.mem_singleton.mp hx]; exact hc
structure PtOk (z : Nat) (L : List Wd) : Prop where
  l : L.length = z
  w : ∀ w ∈ L, Gd w
theorem PtOk.set {z i : Nat} {L : List Wd} {w : Wd} (h : PtOk z L) (hw : Gd w) : PtOk z (L.set i w) :=
  ⟨by rw [List.length_set]; exact h.l, fun x hx => (List.mem_or_eq_of_mem_set hx).elim (h.w x) fun e => by rw [e]; exact hw⟩
end Tw

set_option maxHeartbeats 2000000
namespace Tw
open PySem
section
variable {P : List Pn} {m mi t : Nat} {T : List (List Nat)}
theorem BkW.flat {α : Type} {f g : α → List Nat} : ∀ {rs : List α}, (∀ r ∈ rs, BkW (f r) (g r)) → BkW (rs.flatMap f) (rs.flatMap g)
  | [], _ => BkT.nil.toBkW
  | r :: rs, h => by
    rw [List.flatMap_cons, List.flatMap_cons]
    exact (h r List.mem_cons_self).app2 (BkW.flat fun x hx => h x (List.mem_cons_of_mem _ hx))
end
end Tw

set_option maxHeartbeats 2000000
namespace Tw
open PySem
section
variable {P : List Pn} {m mi t : Nat} {T : List (List Nat)} {ws : List Wd}
end
end Tw

set_option maxHeartbeats 2000000
namespace Tw
open PySem
theorem psum {f : Nat → Int} {l m : List Nat} (h : l.Perm m) : (l.map f).sum = (m.map f).sum := by
  induction h with
  | nil => rfl
  | cons a _ ih => simp only [List.map_cons, List.sum_cons, ih]
  | swap a b l => simp only [List.map_cons, List.sum_cons]; omega
  | trans _ _ h1 h2 => exact h1.trans h2
theorem sum_same {f : Nat → Int} : ∀ {l m : List Nat}, l.Nodup → m.Nodup → (∀ x, x ∈ l ↔ x ∈ m) → (l.map f).sum = (m.map f).sum
  | [], [], _, _, _ => rfl
  | [], b :: m, _, _, h => by have := (h b).mpr List.mem_cons_self; cases this
  | a :: l, m, n1, n2, h => by
    obtain ⟨h1, h2⟩ := List.nodup_cons.mp n1
    have ha := (h a).mp List.mem_cons_self
    have p := List.perm_cons_erase ha
    rw [psum p, List.map_cons, List.sum_cons, List.map_cons, List.sum_cons]
    have ih := sum_same (f := f) (l := l) (m := m.erase a) h2 (n2.erase a) fun x => by
      rw [n2.mem_erase_iff]
      constructor
      · intro hx
        exact ⟨fun e => h1 (e ▸ hx), (h x).mp (List.mem_cons_of_mem _ hx)⟩
      · rintro ⟨hne, hx⟩
        exact (List.mem_cons.mp ((h x).mpr hx)).resolve_left hne
    rw [ih]
theorem lc_loop1 {a0 a1 a3 : Option Slot} {T : List Int} : ∀ (ls : List Lnk) (a : Int), (∀ l ∈ ls, l.1 < T.length) →
    forL (gVar 5) [5] b_law_counts_1 (ls.map lkD) [a0, a1, some (.own (.lst (T.map D.int))), a3, some (.val (.int a)), none] = .ok (.nx [a0, a1, some (.own (.lst (T.map D.int))), a3, some (.val (.int (cnL T ls a))), none])
  | [], a, _ => by rw [List.map_nil, f_n]; rfl
  | l :: ls, a, h => by
    have hl := h l List.mem_cons_self
    have ih := fun a => lc_loop1 (a0 := a0) (a1 := a1) (a3 := a3) (T := T) ls a fun x hx => h x (List.mem_cons_of_mem _ hx)
    have hx := mapG (f := D.int) (getD_some hl)
    have st : b_law_counts_1 [a0, a1, some (.own (.lst (T.map D.int))), a3, some (.val (.int a)), some (.val (lkD l))] = .ok (.nx [a0, a1, some (.own (.lst (T.map D.int))), a3, some (.val (.int (if l.2 then a else a + T.getD l.1 0))), some (.val (lkD l))]) := by
      unfold b_law_counts_1
      cases h2 : l.2 with
      | true =>
        have c : decide (bI l.2 = 0) = false := by rw [h2]; decide
        simp -implicitDefEqProofs (disch := (first | assumption | omega | (simp only [ngs]; done) | decide)) only [ev, R.bind_ok, R.bind_ex, R.st_ok, R.st_ex, R.of_some, List.length_map, lk_0, lk_1, c]
        rfl
      | false =>
        have c : decide (bI l.2 = 0) = true := by rw [h2]; decide
        simp -implicitDefEqProofs (disch := (first | assumption | omega | (simp only [ngs]; done) | decide)) only [ev, R.bind_ok, R.bind_ex, R.st_ok, R.st_ex, R.of_some, List.length_map, lk_0, lk_1, c, hx]
        rfl
    rw [List.map_cons, f_c]
    simp -implicitDefEqProofs (disch := (first | assumption | omega | (simp only [ngs]; done) | decide)) only [ev, R.bind_ok, R.bind_ex, R.st_ok, R.st_ex, R.of_some, List.length_map, st, ih]
    rfl
theorem lc_loop2 {m : Nat} {P : List Pn} {b : Nat} (ho : PlanOk m P) (hl : P.length ≤ 100) : ∀ (N k : Nat), k + N ≤ P.length →
    forL (gVar 3) [3, 4, 5] b_law_counts_2 ((List.range' k N).map fun i : Nat => .int i) [some (.val (.lst (P.map pnD))), some (.val (.int b)), some (.own (.lst ((cnTab P b k).map D.int))), none, none, none] =
      .ok (.nx [some (.val (.lst (P.map pnD))), some (.val (.int b)), some (.own (.lst ((cnTab P b (k + N)).map D.int))), none, none, none])
  | 0, k, _ => by rw [List.range'_zero, List.map_nil, f_n]; rfl
  | N + 1, k, h => by
    have hk : k < P.length := by omega
    have hp : P[k]? = some P[k] := List.getElem?_eq_getElem hk
    generalize P[k]'hk = p at hp
    have tl := cnTab_len (P := P) (b := b) k
    have lp := fun a0 a1 a3 a => lc_loop1 (a0 := a0) (a1 := a1) (a3 := a3) (T := cnTab P b k) p.ls a fun l hl => by have := (ho k p hp).lt l hl; omega
    have x1 := mapG (f := pnD) hp
    have ll : ((cnTab P b k).map D.int).length < 1000000 := by rw [List.length_map]; omega
    have ll2 : (cnTab P b k).length < 1000000 := by omega
    have st : b_law_counts_2 [some (.val (.lst (P.map pnD))), some (.val (.int b)), some (.own (.lst ((cnTab P b k).map D.int))), some (.val (.int k)), none, none] =
        .ok (.nx [some (.val (.lst (P.map pnD))), some (.val (.int b)), some (.own (.lst ((cnTab P b (k + 1)).map D.int))), some (.val (.int k)), some (.val (.int (cnL (cnTab P b k) (lks P k) (if k = b then 1 else 0)))), none]) := by
      have e : cnTab P b (k + 1) = cnTab P b k ++ [cnL (cnTab P b k) (lks P k) (if k = b then 1 else 0)] := rfl
      rw [e, lks_get hp]
      have bi : ∀ b : Bool, oInt (.bl b) = some (.int (bI b)) := fun b => rfl
      have be : bI (decide ((k : Int) = b)) = if k = b then 1 else 0 := by
        by_cases h : k = b
        · rw [if_pos h, decide_eq_true (by omega)]; rfl
        · rw [if_neg h, decide_eq_false (by omega)]; rfl
      unfold b_law_counts_2
      simp -implicitDefEqProofs (disch := (first | assumption | omega | (simp only [ngs]; done) | decide)) only [ev, R.bind_ok, R.bind_ex, R.st_ok, R.st_ex, R.of_some, List.length_map, ↓bi, be, x1, pn_0, lp]
      rw [List.map_append]
      rfl
    have ih := lc_loop2 (b := b) ho hl N (k + 1) (by omega)
    rw [List.range'_succ, List.map_cons, f_c]
    simp -implicitDefEqProofs (disch := (first | assumption | omega | (simp only [ngs]; done) | decide)) only [ev, R.bind_ok, R.bind_ex, R.st_ok, R.st_ex, R.of_some, List.length_map, st, ih]
    rw [show k + 1 + N = k + (N + 1) by omega]
theorem law_counts_ok {m : Nat} {P : List Pn} {b : Nat} (ho : PlanOk m P) (hl : P.length ≤ 100) : d_law_counts [plnD P, .int b] = .ok (.lst ((cnTab P b P.length).map D.int)) := by
  have lp := lc_loop2 (b := b) ho hl P.length 0 (by omega)
  rw [← List.range_eq_range', Nat.zero_add, show (cnTab P b 0).map D.int = [] from rfl] at lp
  have l9 : P.length < 1000000000 := by omega
  rw [e_law_counts]
  unfold b_law_counts plnD
  simp -implicitDefEqProofs (disch := (first | assumption | omega | (simp only [ngs]; done) | decide)) only [ev, R.bind_ok, R.bind_ex, R.st_ok, R.st_ex, R.of_some, List.length_map, lp]
section
variable {P : List Pn} {m mi t s : Nat} {T : List (List Nat)} {ws lb : List Wd}
theorem cc_law (ho : PlanOk m P) (hT : T.length = P.length) (hS : ShT P T) (ht : t < P.length) {b : Nat} : (cnTab P b P.length).getD t 0 + ((T.getD t []).map fun k => (cnTab P b P.length).getD k 0).sum = cc P t b := by
  unfold cc
  congr 1
  refine sum_same ((hS.few t (by omega)).nd) ((List.nodup_range).filter _) fun x => ?_
  rw [hS.mem t (by omega), mem_shI ho]
end
end Tw

set_option maxHeartbeats 2000000
namespace Tw
open PySem
theorem words_ok {s : Int} (s0 : 0 ≤ s) {n : Nat} (hn : n ≤ 62) : ∃ ws : List Wd, Wds ws ∧ ws.length = n ∧ ∀ k, k < n → d_law_word [.int s, .int k] = .ok (.str (S (ws.getD k []))) := by
  obtain ⟨f, b, z, t, hf, hb, hwd⟩ := law_word_ok s s0
  obtain ⟨hw, hwl⟩ := lws_ok (z := z) (t := t) hf hb hn
  refine ⟨lws f b z t n, hw, hwl, fun k hk => ?_⟩
  rw [hwd k (by omega)]
  have : (lws f b z t n).getD k [] = wordL f b z t k := by
    unfold lws
    rw [List.getD_eq_getElem?_getD, List.getElem?_map, List.getElem?_range hk]; rfl
  rw [this]
theorem word_comp {s : Int} {n : Nat} {ws : List Wd} (hwl : ws.length = n) (hn : n ≤ 1000) (h : ∀ k, k < n → d_law_word [.int s, .int k] = .ok (.str (S (ws.getD k [])))) {e : DE} {j : Nat} {ρ : DEnv}
    (ho : okW [j] ρ = true) (hs : ∀ x, ∃ ρ2, gVar j x (wipD [j] ρ) = .ok ρ2 ∧ e ρ2 = .ok (.int s) ∧ eVar j ρ2 = .ok x) :
    compS (gVar j) tYesD (eCall d_law_word (aCons e (aCons (eVar j) aNil))) [j] ρ ((List.range n).map fun i : Nat => .int i) = .ok (.lst (stL ws)) := by
  have e1 : stL ws = (List.range n).map fun k => .str (S (ws.getD k [])) := by
    refine List.ext_getElem? fun i => ?_
    by_cases hi : i < n
    · rw [stL_at (by omega), List.getElem?_map, List.getElem?_range hi]; rfl
    · rw [List.getElem?_eq_none (by rw [stL_len]; omega), List.getElem?_eq_none (by simp; omega)]
  rw [e1, comp_map (fun i : Nat => .int i) (fun k => .str (S (ws.getD k []))) (by rw [List.length_range]; omega) ho (fun k hk => by
    obtain ⟨ρ2, h1, h2, h3⟩ := hs (.int k)
    have := h k (List.mem_range.mp hk)
    unfold cStep
    rw [h1]
    simp -implicitDefEqProofs (disch := (first | assumption | omega | (simp only [ngs]; done) | decide)) only [ev, R.bind_ok, R.bind_ex, R.st_ok, R.st_ex, R.of_some, List.length_map, h2, h3, this, if_true])]
section
variable {ws lb nm : List Wd} {P : List Pn} {n k : Nat}
end
end Tw

set_option maxHeartbeats 2000000
namespace Tw
open PySem
theorem sl_S {l : Wd} {lo hi : Option Int} (h : l.length ≤ 1000) : oSl lo hi (.str (S l)) = some (.str (S (cutD l lo hi))) := by
  unfold oSl
  simp only [S_len, if_pos (lineD_big (show l.length ≤ 1000000 by omega))]
  rfl
end Tw

set_option maxHeartbeats 2000000
namespace Tw
open PySem
def lkF (st : Int) (row : List Int) (k : Nat) : Option Lnk :=
  if st = 0 then lkOf row k else if st = 1 then (if 1 ≤ row.getD k 0 then some (k, decide (row.getD k 0 = 1)) else none) else some (k, false)
theorem lkF_fst {st : Int} {row : List Int} {k : Nat} {l : Lnk} (h : lkF st row k = some l) : l.1 = k := by
  unfold lkF lkOf at h
  split at h
  · split at h
    · cases h; rfl
    · cases h
  · split at h
    · split at h
      · cases h; rfl
      · cases h
    · cases h; rfl
theorem lkF_sub {st : Int} {row : List Int} : ∀ ks : List Nat, ((ks.filterMap (lkF st row)).map Prod.fst).Sublist ks
  | [] => List.Sublist.slnil
  | k :: ks => by
    rw [List.filterMap_cons]
    cases h : lkF st row k with
    | none => exact (lkF_sub ks).cons _
    | some l =>
      rw [← lkF_fst h]
      exact (lkF_sub ks).cons_cons _
section
variable {a0 a1 a2 a3 a5 a6 a7 a11 a12 a13 : Option Slot} {row : List Int} {st : Int}
theorem dense_in1 {k : Nat} {acc : List Lnk} (hs : st = 0 ∨ st = 1 ∨ st = 2) (h1 : k < row.length) (h2 : st = 0 → row.getD k 0 < 4) (hl : acc.length < 100000) :
    b_law_dense_1 [a0, a1, a2, a3, some (.val (.int st)), a5, a6, a7, some (.val (.lst (row.map .int))), some (.own (.lst (acc.map lkD))), some (.val (.int k)), a11, a12, a13] =
      .ok (.nx [a0, a1, a2, a3, some (.val (.int st)), a5, a6, a7, some (.val (.lst (row.map .int))), some (.own (.lst ((acc ++ (lkF st row k).toList).map lkD))), some (.val (.int k)), a11, a12, a13]) := by
  have hx := mapG (f := D.int) (getD_some h1)
  have la : (acc.map lkD).length < 1000000 := by rw [List.length_map]; omega
  have la2 : acc.length < 1000000 := by omega
  generalize hv : row.getD k 0 = v at hx h2
  have fin : ∀ l : Lnk, acc.map lkD ++ [lkD l] = (acc ++ [l]).map lkD := fun l => by rw [List.map_append]; rfl
  have nil : (acc ++ ([] : List Lnk)).map lkD = acc.map lkD := by rw [List.append_nil]
  unfold b_law_dense_1
  rcases hs with hs | hs | hs
  · have c0 : decide (st = 0) = true := decide_eq_true hs
    have c1 : decide (st = 1) = false := decide_eq_false (by omega)
    have c2 : decide (st = 2) = false := decide_eq_false (by omega)
    by_cases h : 2 ≤ v
    · have e : lkF st row k = some (k, decide (v = 3)) := by unfold lkF lkOf; rw [if_pos hs, hv, if_pos h]
      have e2 : v - 2 = bI (decide (v = 3)) := by
        have := h2 hs
        unfold bI
        by_cases h3 : v = 3
        · rw [decide_eq_true h3, if_pos rfl]; omega
        · rw [decide_eq_false h3, if_neg (by decide)]; omega
      rw [e]
      simp -implicitDefEqProofs (disch := (first | assumption | omega | (simp only [ngs]; done) | decide)) only [ev, R.bind_ok, R.bind_ex, R.st_ok, R.st_ex, R.of_some, List.length_map, c0, c1, c2, hx, decide_eq_true h, e2]
      rw [Option.toList_some, ← fin]
      rfl
    · have e : lkF st row k = none := by unfold lkF lkOf; rw [if_pos hs, hv, if_neg h]
      rw [e]
      simp -implicitDefEqProofs (disch := (first | assumption | omega | (simp only [ngs]; done) | decide)) only [ev, R.bind_ok, R.bind_ex, R.st_ok, R.st_ex, R.of_some, List.length_map, c0, c1, c2, hx, decide_eq_false h]
      rw [Option.toList_none, nil]
  · have c0 : decide (st = 0) = false := decide_eq_false (by omega)
    have c1 : decide (st = 1) = true := decide_eq_true hs
    have c2 : decide (st = 2) = false := decide_eq_false (by omega)
    by_cases h : 1 ≤ v
    · have e : lkF st row k = some (k, decide (v = 1)) := by unfold lkF; rw [if_neg (by omega), if_pos hs, hv, if_pos h]
      rw [e]
      have bi : ∀ b : Bool, oInt (.bl b) = some (.int (bI b)) := fun b => rfl
      simp -implicitDefEqProofs (disch := (first | assumption | omega | (simp only [ngs]; done) | decide)) only [ev, R.bind_ok, R.bind_ex, R.st_ok, R.st_ex, R.of_some, List.length_map, c0, c1, c2, hx, decide_eq_true h, ↓bi]
      rw [Option.toList_some, ← fin]
      rfl
    · have e : lkF st row k = none := by unfold lkF; rw [if_neg (by omega), if_pos hs, hv, if_neg h]
      rw [e]
      simp -implicitDefEqProofs (disch := (first | assumption | omega | (simp only [ngs]; done) | decide)) only [ev, R.bind_ok, R.bind_ex, R.st_ok, R.st_ex, R.of_some, List.length_map, c0, c1, c2, hx, decide_eq_false h]
      rw [Option.toList_none, nil]
  · have c0 : decide (st = 0) = false := decide_eq_false (by omega)
    have c1 : decide (st = 1) = false := decide_eq_false (by omega)
    have c2 : decide (st = 2) = true := decide_eq_true hs
    have e : lkF st row k = some (k, false) := by unfold lkF; rw [if_neg (by omega), if_neg (by omega)]
    rw [e]
    simp -implicitDefEqProofs (disch := (first | assumption | omega | (simp only [ngs]; done) | decide)) only [ev, R.bind_ok, R.bind_ex, R.st_ok, R.st_ex, R.of_some, List.length_map, c0, c1, c2]
    rw [Option.toList_some, ← fin]
    rfl
theorem dense_loop1 (hs : st = 0 ∨ st = 1 ∨ st = 2) : ∀ (ks : List Nat) (acc : List Lnk), (∀ k ∈ ks, k < row.length ∧ (st = 0 → row.getD k 0 < 4)) → acc.length + ks.length < 100000 →
    forL (gVar 10) [10] b_law_dense_1 (ks.map fun k : Nat => D.int k) [a0, a1, a2, a3, some (.val (.int st)), a5, a6, a7, some (.val (.lst (row.map .int))), some (.own (.lst (acc.map lkD))), none, a11, a12, a13] =
      .ok (.nx [a0, a1, a2, a3, some (.val (.int st)), a5, a6, a7, some (.val (.lst (row.map .int))), some (.own (.lst ((acc ++ ks.filterMap (lkF st row)).map lkD))), none, a11, a12, a13])
  | [], acc, _, _ => by rw [List.filterMap_nil, List.append_nil, List.map_nil, f_n]
  | k :: ks, acc, h, hl => by
    simp only [List.length_cons] at hl
    obtain ⟨h1, h2⟩ := h k List.mem_cons_self
    have st1 := fun a0 a1 a2 a3 a5 a6 a7 a11 a12 a13 => dense_in1 (a0 := a0) (a1 := a1) (a2 := a2) (a3 := a3) (a5 := a5) (a6 := a6) (a7 := a7) (a11 := a11) (a12 := a12) (a13 := a13) (row := row) (acc := acc) hs h1 h2 (by omega)
    have le : ((lkF st row k).toList).length ≤ 1 := by cases lkF st row k <;> simp
    have ih := dense_loop1 hs ks (acc ++ (lkF st row k).toList) (fun x hx => h x (List.mem_cons_of_mem _ hx)) (by rw [List.length_append]; omega)
    rw [List.map_cons, f_c]
    simp -implicitDefEqProofs (disch := (first | assumption | omega | (simp only [ngs]; done) | decide)) only [ev, R.bind_ok, R.bind_ex, R.st_ok, R.st_ex, R.of_some, List.length_map, st1, ih]
    have e : (k :: ks).filterMap (lkF st row) = (lkF st row k).toList ++ ks.filterMap (lkF st row) := by
      rw [List.filterMap_cons]
      cases lkF st row k <;> rfl
    rw [e, List.append_assoc]
end
/-- all the earlier classes, own -/
def AllOwn (P : List Pn) : Prop := ∀ j, j < P.length → lks P j = (List.range j).map fun k => (k, false)
theorem dense_step (ns : List Int) (at' j : Nat) (sz : D) (st : Int) (hs : st = 0 ∨ st = 1 ∨ st = 2) (l5 : List D) (ha : at' ≤ 1000) (hj : j ≤ 1000) (h5 : l5.length < 1000000) :
    ∃ (p : Pn) (x7 x8 x9 x11 : D), PnOk j 0 p ∧ (st = 2 → p.ls = (List.range j).map fun k => (k, false)) ∧
      b_law_dense_3 [some (.val (.scr ns)), some (.val (.int at')), some (.val sz), some (.val (.int 0)), some (.val (.int st)), some (.own (.lst l5)), some (.val (.int j)), none, none, none, none, none, none, none] =
      .ok (.nx [some (.val (.scr ns)), some (.val (.int at')), some (.val sz), some (.val (.int 0)), some (.val (.int st)), some (.own (.lst (l5 ++ [pnD p]))), some (.val (.int j)), some (.val x7), some (.val x8), some (.val x9), none, some (.val x11), none, none]) := by
  obtain ⟨c, hc⟩ := law_cell_ok ns ((at' : Int) + j) (by omega)
  obtain ⟨lim, hlm, hlp, hl4⟩ : ∃ lim : Int, atD [D.int 4, D.int 16, D.int 1] st = some (.int lim) ∧ (0 < lim ∧ lim < 100) ∧ (st = 0 → lim = 4) := by
    rcases hs with rfl | rfl | rfl
    · exact ⟨4, rfl, by decide, fun _ => rfl⟩
    · exact ⟨16, rfl, by decide, fun h => by cases h⟩
    · exact ⟨1, rfl, by decide, fun h => by cases h⟩
  have e4 := mul_lst (x := lim) hj
  obtain ⟨row, hrow, hlen, hB⟩ := law_row_ok c ((at' : Int) + j) (List.replicate j lim) (fun l hl => by rw [(List.mem_replicate.mp hl).2]; omega) (by simp; omega)
  rw [List.length_replicate] at hlen
  have b4 : ∀ k, k < j → st = 0 → row.getD k 0 < 4 := fun k hk h0 => by
    have := (hB k _ lim (getD_some (by omega)) (by rw [List.getElem?_replicate, if_pos hk])).2
    have := hl4 h0
    omega
  have l41 : ((List.replicate j lim).map D.int).length = j := by simp
  have lp := fun a0 a1 a2 a3 a5 a6 a7 => dense_loop1 (a0 := a0) (a1 := a1) (a2 := a2) (a3 := a3) (a5 := a5) (a6 := a6) (a7 := a7) (a11 := none) (a12 := none) (a13 := none) (row := row) hs (List.range j) [] (fun k hk => by
    have := List.mem_range.mp hk
    exact ⟨by omega, b4 k this⟩) (by simp; omega)
  simp only [List.map_nil, List.nil_append] at lp
  have hsub := lkF_sub (st := st) (row := row) (List.range j)
  have h2 : st = 2 → (List.range j).filterMap (lkF st row) = (List.range j).map fun k => (k, false) := fun h => by
    have : lkF st row = fun k => some (k, false) := by
      funext k; unfold lkF; rw [if_neg (by omega), if_neg (by omega)]
    rw [this]
    exact congrFun List.filterMap_eq_map' _
  generalize (List.range j).filterMap (lkF st row) = l0 at lp hsub h2
  have j9 : j < 1000000000 := by omega
  have ok : PnOk j 0 ⟨l0, []⟩ := ⟨fun l hl => List.mem_range.mp (hsub.subset (List.mem_map.mpr ⟨l, hl, rfl⟩)), hsub.nodup List.nodup_range, rfl, fun x hx => by cases hx⟩
  have e5 : ∀ sp : Int, oMul (.lst [.int sp]) (.int 0) = some (.lst []) := fun sp => mul_lst (x := sp) (j := 0) (by decide)
  have rg0 : rngR (.int 0) = .ok [] := rg_n (k := 0) (by decide)
  have ad : oAdd (.lst ((List.replicate j lim).map D.int)) (.lst []) = some (.lst ((List.replicate j lim).map D.int)) := by
    rw [p_addl (by rw [List.length_nil]; omega), List.append_nil]
  have mk : ∀ (sp : Int) a5 b8 b9, e2 oAdd (e2 oMul (eLst (aCons (e2 oIx (eLst (aCons (eC (.int 4)) (aCons (eC (.int 16)) (aCons (eC (.int 1)) (aNil))))) (eVar 4)) (aNil))) (eVar 6)) (e2 oMul (eLst (aCons (eVar 7) (aNil))) (eVar 3)) [some (.val (.scr ns)), some (.val (.int at')), some (.val sz), some (.val (.int 0)), some (.val (.int st)), a5, some (.val (.int j)), some (.val (.int sp)), b8, b9, none, none, none, none] = .ok (.lst ((List.replicate j lim).map D.int)) := by
    intro sp a5 b8 b9
    refine e2_ok (x := .lst ((List.replicate j lim).map D.int)) (y := .lst []) (e2_ok (x := .lst [.int lim]) (y := .int j) ?_ rfl e4) (e2_ok (x := .lst [.int sp]) (y := .int 0) ?_ rfl (e5 sp)) ad
    · simp -implicitDefEqProofs (disch := (first | assumption | omega | (simp only [ngs]; done) | decide)) only [ev, R.bind_ok, R.bind_ex, R.st_ok, R.st_ex, R.of_some, List.length_map, hlm]
    · simp -implicitDefEqProofs (disch := (first | assumption | omega | (simp only [ngs]; done) | decide)) only [ev, R.bind_ok, R.bind_ex, R.st_ok, R.st_ex, R.of_some, List.length_map]
  have rest : ∀ sp : Int, ∃ (x8 x9 x11 : D), (sSeq (sSet 8 (eCall d_law_row (aCons (eCall d_law_cell (aCons (eVar 0) (aCons (e2 oAdd (eVar 1) (eVar 6)) (aNil)))) (aCons (e2 oAdd (eVar 1) (eVar 6)) (aCons (e2 oAdd (e2 oMul (eLst (aCons (e2 oIx (eLst (aCons (eC (.int 4)) (aCons (eC (.int 16)) (aCons (eC (.int 1)) (aNil))))) (eVar 4)) (aNil))) (eVar 6)) (e2 oMul (eLst (aCons (eVar 7) (aNil))) (eVar 3))) (aNil)))))) (sSeq (sOwn 9 (eLst (aNil))) (sSeq (sFor (iRange (eVar 6)) (gVar 10) [10] b_law_dense_1) (sSeq (sOwn 11 (eLst (aNil))) (sSeq (sFor (iRange (eVar 3)) (gVar 12) [12, 13] b_law_dense_2) (sFrz [9, 11] (sApp 5 (eLst (aCons (eVar 9) (aCons (eVar 11) (aNil)))))))))))
      [some (.val (.scr ns)), some (.val (.int at')), some (.val sz), some (.val (.int 0)), some (.val (.int st)), some (.own (.lst l5)), some (.val (.int j)), some (.val (.int sp)), none, none, none, none, none, none] =
      .ok (.nx [some (.val (.scr ns)), some (.val (.int at')), some (.val sz), some (.val (.int 0)), some (.val (.int st)), some (.own (.lst (l5 ++ [pnD ⟨l0, []⟩]))), some (.val (.int j)), some (.val (.int sp)), some (.val x8), some (.val x9), none, some (.val x11), none, none]) := by
    intro sp
    refine ⟨.lst (row.map .int), .lst (l0.map lkD), .lst [], ?_⟩
    simp -implicitDefEqProofs (disch := (first | assumption | omega | (simp only [ngs]; done) | decide)) only [ev, R.bind_ok, R.bind_ex, R.st_ok, R.st_ex, R.of_some, List.length_map, ↓mk, hc, hrow, lp, rg0]
    rfl
  by_cases hc1 : 0 < st
  · by_cases hc2 : 1 < (j : Int)
    · obtain ⟨x8, x9, x11, r⟩ := rest 20
      refine ⟨⟨l0, []⟩, .int 20, x8, x9, x11, ok, h2, ?_⟩
      unfold b_law_dense_3
      rw [q_seq]
      simp -implicitDefEqProofs (disch := (first | assumption | omega | (simp only [ngs]; done) | decide)) only [ev, R.bind_ok, R.bind_ex, R.st_ok, R.st_ex, R.of_some, List.length_map, decide_eq_true hc1, decide_eq_true hc2, ↓r]
    · obtain ⟨x8, x9, x11, r⟩ := rest 5
      refine ⟨⟨l0, []⟩, .int 5, x8, x9, x11, ok, h2, ?_⟩
      unfold b_law_dense_3
      rw [q_seq]
      simp -implicitDefEqProofs (disch := (first | assumption | omega | (simp only [ngs]; done) | decide)) only [ev, R.bind_ok, R.bind_ex, R.st_ok, R.st_ex, R.of_some, List.length_map, decide_eq_true hc1, decide_eq_false hc2, ↓r]
  · obtain ⟨x8, x9, x11, r⟩ := rest 5
    refine ⟨⟨l0, []⟩, .int 5, x8, x9, x11, ok, h2, ?_⟩
    unfold b_law_dense_3
    rw [q_seq]
    simp -implicitDefEqProofs (disch := (first | assumption | omega | (simp only [ngs]; done) | decide)) only [ev, R.bind_ok, R.bind_ex, R.st_ok, R.st_ex, R.of_some, List.length_map, decide_eq_false hc1, ↓r]
theorem dense_loop (ns : List Int) (at' : Nat) (sz : D) (st : Int) (hs : st = 0 ∨ st = 1 ∨ st = 2) (ha : at' ≤ 1000) : ∀ (n : Nat) (P : List Pn), P.length + n ≤ 1000 → PlanOk 0 P → (st = 2 → AllOwn P) →
    ∃ P' : List Pn, P'.length = P.length + n ∧ PlanOk 0 P' ∧ (st = 2 → AllOwn P') ∧ forL (gVar 6) [6, 7, 8, 9, 10, 11, 12, 13] b_law_dense_3 ((List.range' P.length n).map fun i : Nat => .int i) [some (.val (.scr ns)), some (.val (.int at')), some (.val sz), some (.val (.int 0)), some (.val (.int st)), some (.own (plnD P)), none, none, none, none, none, none, none, none] =
      .ok (.nx [some (.val (.scr ns)), some (.val (.int at')), some (.val sz), some (.val (.int 0)), some (.val (.int st)), some (.own (plnD P')), none, none, none, none, none, none, none, none])
  | 0, P, _, h, ha => ⟨P, rfl, h, ha, by rw [List.range'_zero, List.map_nil, f_n]⟩
  | n + 1, P, hl, h, hA => by
    obtain ⟨p, x7, x8, x9, x11, hp, h2, st1⟩ := dense_step ns at' P.length sz st hs (P.map pnD) ha (by omega) (by rw [List.length_map]; omega)
    have hA' : st = 2 → AllOwn (P ++ [p]) := fun e j hj => by
      rw [List.length_append, List.length_singleton] at hj
      unfold lks
      by_cases hjP : j < P.length
      · rw [List.getElem?_append_left hjP]
        exact hA e j hjP
      · have : j = P.length := by omega
        subst this
        rw [List.getElem?_append_right (Nat.le_refl _), Nat.sub_self]
        exact h2 e
    obtain ⟨P', h1, h3, h4, h5⟩ := dense_loop ns at' sz st hs ha n (P ++ [p]) (by rw [List.length_append, List.length_singleton]; omega) (h.snoc hp) hA'
    rw [List.length_append, List.length_singleton] at h1 h5
    refine ⟨P', by omega, h3, h4, ?_⟩
    rw [List.range'_succ, List.map_cons, f_c]
    have pe : P.map pnD ++ [pnD p] = (P ++ [p]).map pnD := by rw [List.map_append]; rfl
    unfold plnD at h5 ⊢
    simp -implicitDefEqProofs (disch := (first | assumption | omega | (simp only [ngs]; done) | decide)) only [ev, R.bind_ok, R.bind_ex, R.st_ok, R.st_ex, R.of_some, List.length_map, st1, pe, h5]
theorem law_dense_ok (ns : List Int) (at' n : Nat) (st : Int) (hs : st = 0 ∨ st = 1 ∨ st = 2) (ha : at' ≤ 1000) (hn : n ≤ 1000) :
    ∃ P : List Pn, P.length = n ∧ PlanOk 0 P ∧ (st = 2 → AllOwn P) ∧ d_law_dense [.scr ns, .int at', .int n, .int 0, .int st] = .ok (plnD P) := by
  obtain ⟨P, h1, h2, hA, h3⟩ := dense_loop ns at' (.int n) st hs ha n [] (by simpa using hn) PlanOk.nil (fun _ j h => by simp at h)
  refine ⟨P, by simpa using h1, h2, hA, ?_⟩
  rw [e_law_dense]
  unfold b_law_dense
  have n9 : n < 1000000000 := by omega
  rw [List.length_nil, ← List.range_eq_range', show plnD [] = D.lst [] from rfl] at h3
  simp -implicitDefEqProofs (disch := (first | assumption | omega | (simp only [ngs]; done) | decide)) only [ev, R.bind_ok, R.bind_ex, R.st_ok, R.st_ex, R.of_some, List.length_map, h3]
theorem bI_1 (b : Bool) : decide (bI b = 1) = b := by cases b <;> decide
theorem draftsD_step {ws : List Wd} {P : List Pn} {j : Nat} {p : Pn} {l3 : List D} (hw : Wds ws) (hj : j < ws.length) (hp : P[j]? = some p) (ho : PnOk j 0 p) (h3 : l3.length < 1000000) :
    b_law_draftsD_1 [some (.val (.lst (P.map pnD))), some (.val (.lst (stL ws))), some (.val (.lst [])), some (.own (.lst l3)), some (.val (.int j)), none, none, none, none, none] =
      .ok (.nx [some (.val (.lst (P.map pnD))), some (.val (.lst (stL ws))), some (.val (.lst [])), some (.own (.lst (l3 ++ [drD (prDr ws [] j p)]))), some (.val (.int j)), some (.val (.lst [])), some (.val (.lst [])), some (.val (.lst ((prDr ws [] j p).bs.map bD))), none, none]) := by
  have hok := prDr_ok hw Wds.nil hj ho
  have h4 := hw.l
  have pl := ho.len
  have mk := mkdr_ok (nd := .lst []) (sd := .lst []) (bd := .lst ((prDr ws [] j p).bs.map bD)) hok (.inl rfl) (.inl rfl) (.inl rfl)
  have mk : mkD "Draft" d_Draft_init [.str (S (ws.getD j [])), .lst [], .lst [], .lst ((prDr ws [] j p).bs.map bD)] = .ok (drD (prDr ws [] j p)) := mk
  have x1 := mapG (f := pnD) hp
  have x2 := stL_at hj
  have it : iterD (.lst (p.ls.map lkD)) = some (p.ls.map lkD) := rfl
  have rg0 : rngR (.int (([] : List D).length : Nat)) = .ok [] := rg_n (k := 0) (by decide)
  have cm : ∀ a2 a3 a5 a6 a7, compS (gVar 9) tYesD (eCall (mkD "Base" d_Base_init) (aCons (e2 oIx (eVar 1) (e2 oIx (eVar 9) (eC (.int 0)))) (aCons (e2 oEq (e2 oIx (eVar 9) (eC (.int 1))) (eC (.int 1))) (aNil)))) [9] [some (.val (.lst (P.map pnD))), some (.val (.lst (stL ws))), a2, a3, some (.val (.int j)), a5, a6, a7, none, none] (p.ls.map lkD) = .ok (.lst ((prDr ws [] j p).bs.map bD)) := by
    intro a2 a3 a5 a6 a7
    rw [comp_map lkD (fun l => bD (ws.getD l.1 [], l.2)) (by omega) rfl (fun l hl => by
      have := ho.lt l hl
      have x := stL_at (ws := ws) (k := l.1) (by omega)
      have mb := mkbase_ok (b := l.2) (hw.w _ (wmem (ws := ws) (k := l.1) (by omega)))
      unfold cStep
      simp -implicitDefEqProofs (disch := (first | assumption | omega | (simp only [ngs]; done) | decide)) only [ev, R.bind_ok, R.bind_ex, R.st_ok, R.st_ex, R.of_some, List.length_map, lk_0, lk_1, x, bI_1, mb, if_true])]
    show _ = R.ok (D.lst ((p.ls.map fun l => (ws.getD l.1 [], l.2)).map bD))
    rw [List.map_map]
    rfl
  have c0 : ∀ (a : DT) (e : DE) a3 a5 a6 a7, compS (gVar 8) a e [8] [some (.val (.lst (P.map pnD))), some (.val (.lst (stL ws))), some (.val (.lst [])), a3, some (.val (.int j)), a5, a6, a7, none, none] [] = .ok (.lst []) := fun a e a3 a5 a6 a7 => by
    unfold compS
    rw [if_pos ⟨Nat.zero_le _, rfl⟩]
    rfl
  unfold b_law_draftsD_1
  simp -implicitDefEqProofs (disch := (first | assumption | omega | (simp only [ngs]; done) | decide)) only [ev, R.bind_ok, R.bind_ex, R.st_ok, R.st_ex, R.of_some, List.length_map, rg0, c0, x1, x2, pn_0, it, cm, mk]
theorem draftsD_loop {ws : List Wd} {P0 : List Pn} (hw : Wds ws) (hl : P0.length ≤ ws.length) (ho : PlanOk 0 P0) : ∀ (P Q : List Pn) (l3 : List D), P0 = Q ++ P → l3.length = Q.length →
    forL (gVar 4) [4, 5, 6, 7] b_law_draftsD_1 ((List.range' Q.length P.length).map fun i : Nat => .int i) [some (.val (.lst (P0.map pnD))), some (.val (.lst (stL ws))), some (.val (.lst [])), some (.own (.lst l3)), none, none, none, none, none, none] =
      .ok (.nx [some (.val (.lst (P0.map pnD))), some (.val (.lst (stL ws))), some (.val (.lst [])), some (.own (.lst (l3 ++ (drsOf ws [] Q.length P).map drD))), none, none, none, none, none, none])
  | [], Q, l3, _, _ => by
    rw [List.length_nil, List.range'_zero, List.map_nil, f_n]
    unfold drsOf
    rw [List.map_nil, List.append_nil]
  | p :: P, Q, l3, e, e3 => by
    have hp : P0[Q.length]? = some p := by rw [e, List.getElem?_append_right (Nat.le_refl _), Nat.sub_self]; rfl
    have hj : Q.length < P0.length := by rw [e, List.length_append, List.length_cons]; omega
    have h4 := hw.l
    have st := draftsD_step (l3 := l3) hw (j := Q.length) (by omega) hp (ho _ _ hp) (by omega)
    have ih := draftsD_loop hw hl ho P (Q ++ [p]) (l3 ++ [drD (prDr ws [] Q.length p)]) (by rw [e, List.append_assoc]; rfl) (by rw [List.length_append, List.length_append, e3]; rfl)
    rw [List.length_append, List.length_singleton] at ih
    rw [List.length_cons, List.range'_succ, List.map_cons, f_c]
    simp -implicitDefEqProofs (disch := (first | assumption | omega | (simp only [ngs]; done) | decide)) only [ev, R.bind_ok, R.bind_ex, R.st_ok, R.st_ex, R.of_some, List.length_map, st, ih]
    rw [drsOf, List.map_cons, List.append_assoc]
    rfl
theorem law_draftsD_ok {ws : List Wd} {P : List Pn} (hw : Wds ws) (hl : P.length ≤ ws.length) (ho : PlanOk 0 P) :
    d_law_draftsD [plnD P, .lst (stL ws), .lst []] = .ok (.lst ((drsOf ws [] 0 P).map drD)) := by
  have lp := draftsD_loop hw hl ho P [] [] rfl rfl
  rw [List.length_nil, List.nil_append, ← List.range_eq_range'] at lp
  have h4 := hw.l
  have l9 : P.length < 1000000000 := by omega
  rw [e_law_draftsD]
  unfold b_law_draftsD plnD
  simp -implicitDefEqProofs (disch := (first | assumption | omega | (simp only [ngs]; done) | decide)) only [ev, R.bind_ok, R.bind_ex, R.st_ok, R.st_ex, R.of_some, List.length_map, lp]
end Tw

set_option maxHeartbeats 2000000
namespace Tw
open PySem
section
variable {a0 a1 a2 a3 a4 a5 a9 a10 : Option Slot} {row : List Int} {sp : Int} {j : Nat}
end
end Tw

namespace Tw
open PySem
end Tw

set_option maxHeartbeats 2000000
namespace Tw
open PySem
theorem deqL_of : ∀ {l : List D}, (∀ d ∈ l, deq d d = true) → deqL l l = true
  | [], _ => rfl
  | d :: l, h => by
    have h1 := h d List.mem_cons_self
    have h2 := deqL_of fun x hx => h x (List.mem_cons_of_mem d hx)
    simp [deqL, h1, h2]
theorem deq_self : ∀ (k : Nat) (d : D), shp k d = true → deq d d = true := by
  intro k
  induction k with
  | zero => intro d h; cases d <;> first | (simp [deq]; done) | (simp [shp] at h)
  | succ k ih =>
    intro d h
    cases d with
    | lst l =>
      have h : l.all (shp k) = true := h
      have := deqL_of (l := l) fun x hx => ih x (List.all_eq_true.mp h x hx)
      simpa [deq] using this
    | tup l =>
      have h : l.all (shp k) = true := h
      have := deqL_of (l := l) fun x hx => ih x (List.all_eq_true.mp h x hx)
      simpa [deq] using this
    | _ => first | (simp [deq]; done) | (simp [shp] at h)
theorem ne_self {d : D} (h : shp 60 d = true) : oNe d d = some (.bl false) := by
  unfold oNe eqD
  rw [deq_self 60 d h, h]
  by_cases s : scalD d d = true
  · rw [if_pos s]; rfl
  · rw [if_neg s]; rfl
section
variable {P : List Pn} {m mi t : Nat} {ws lb nm : List Wd} {st dc : Nat → Bool} {x : Wd}
end
end Tw

set_option maxHeartbeats 2000000
namespace Tw
open PySem
theorem cms_short {l : List Nat} (h : l.length ≤ 3) : cmsL l = l := by
  have : ∀ r : List Nat, r.length ≤ 3 → grpR r = r := fun r hr => by
    match r, hr with
    | [], _ => rfl
    | [_], _ => rfl
    | [_, _], _ => rfl
    | [_, _, _], _ => rfl
    | _ :: _ :: _ :: _ :: r, h => simp only [List.length_cons] at h; omega
  unfold cmsL
  rw [this _ (by rw [List.length_reverse]; exact h), List.reverse_reverse]
theorem cms_long {a : List Nat} {x y z : Nat} (h : a ≠ []) : cmsL (a ++ [x, y, z]) = cmsL a ++ [44, x, y, z] := by
  unfold cmsL
  rw [List.reverse_append]
  cases e : a.reverse with
  | nil => exact absurd (List.reverse_eq_nil_iff.mp e) h
  | cons d r =>
    show (grpR (z :: y :: x :: d :: r)).reverse = _
    show (z :: y :: x :: 44 :: grpR (d :: r)).reverse = _
    simp
theorem last3 {l : List Nat} (h : 3 < l.length) : ∃ a x y z, l = a ++ [x, y, z] ∧ a ≠ [] := by
  have e : l = l.take (l.length - 3) ++ l.drop (l.length - 3) := (List.take_append_drop _ _).symm
  have hl : (l.drop (l.length - 3)).length = 3 := by rw [List.length_drop]; omega
  obtain ⟨x, y, z, e3⟩ : ∃ x y z, l.drop (l.length - 3) = [x, y, z] := by
    match l.drop (l.length - 3), hl with
    | [x, y, z], _ => exact ⟨x, y, z, rfl⟩
  rw [e3] at e
  refine ⟨_, x, y, z, e, fun z => ?_⟩
  have := congrArg List.length z
  rw [List.length_take] at this
  simp only [List.length_nil] at this
  omega
def tlL (ps : List (List Nat)) : List Nat := ps.flatMap fun p => 44 :: p
theorem commas_loop {a0 : Option Slot} : ∀ (N : Nat) (xs : List D) (l : List Nat) (ps : List (List Nat)), xs.length = N → l.length ≤ 3 * N → l.length ≤ 100 → ps.length ≤ 100 - l.length →
    ∃ l' ps' c, l' ++ tlL ps' = cmsL l ++ tlL ps ∧ ps'.length ≤ 100 ∧ (∀ p ∈ ps', p ∈ ps ∨ p.length = 3) ∧ l'.length ≤ 3 ∧ forL (gVar 3) [3] b_law_commas_1 xs [a0, some (.val (.str (S l))), some (.val (.lst (stL ps))), none] = .ok (.nx [a0, some (.val (.str (S l'))), some (.val (.lst (stL ps'))), c])
  | 0, xs, l, ps, hx, h, h2, h3 => by
    have e1 : xs = [] := List.length_eq_zero_iff.mp hx
    have e2 : l = [] := List.length_eq_zero_iff.mp (by omega)
    subst e1; subst e2
    exact ⟨[], ps, none, rfl, by omega, fun p h => .inl h, by simp, by rw [f_n]⟩
  | N + 1, xs, l, ps, hx, h, h2, h3 => by
    cases xs with
    | nil => cases hx
    | cons d xs =>
      rw [List.length_cons] at hx
      have ln : oLen (.str (S l)) = some (.int l.length) := by rw [p_lens (by rw [S_len]; omega), S_len]
      rw [f_c]
      by_cases h4 : l.length ≤ 3
      · refine ⟨l, ps, some (.val d), by rw [cms_short h4], by omega, fun p h => .inl h, h4, ?_⟩
        have c : decide ((l.length : Int) ≤ 3) = true := decide_eq_true (by omega)
        have st : b_law_commas_1 [a0, some (.val (.str (S l))), some (.val (.lst (stL ps))), some (.val d)] = .ok (.bk [a0, some (.val (.str (S l))), some (.val (.lst (stL ps))), some (.val d)]) := by
          unfold b_law_commas_1
          simp -implicitDefEqProofs (disch := (first | assumption | omega | (simp only [ngs]; done) | decide)) only [ev, R.bind_ok, R.bind_ex, R.st_ok, R.st_ex, R.of_some, List.length_map, ↓ln, c]
        simp -implicitDefEqProofs (disch := (first | assumption | omega | (simp only [ngs]; done) | decide)) only [ev, R.bind_ok, R.bind_ex, R.st_ok, R.st_ex, R.of_some, List.length_map, st]
      · obtain ⟨a, x, y, z, e, ha⟩ := last3 (by omega : 3 < l.length)
        have hl : l.length = a.length + 3 := by rw [e, List.length_append]; rfl
        obtain ⟨l', ps', c0, e1, e2, e3, e4, ih⟩ := commas_loop (a0 := a0) N xs a ([x, y, z] :: ps) (by omega) (by omega) (by omega) (by rw [List.length_cons]; omega)
        refine ⟨l', ps', c0, ?_, e2, fun p hp => ?_, e4, ?_⟩
        · rw [e1, e, cms_long ha, List.append_assoc]
          rfl
        · rcases e3 p hp with h | h
          · rcases List.mem_cons.mp h with rfl | h
            · exact .inr rfl
            · exact .inl h
          · exact .inr h
        · have c : decide ((l.length : Int) ≤ 3) = false := decide_eq_false (by omega)
          have n3 : oNeg (.int 3) = some (.int (-3)) := rfl
          have si : ∀ d, sIxD l.length d (some (-3)) = a.length := fun d => by
            show (if (-3 : Int) < 0 then ((-3 : Int) + (l.length : Int)).toNat else min (-3 : Int).toNat l.length) = a.length
            rw [if_pos (show (-3 : Int) < 0 by decide)]
            omega
          have s1 : oSl (some (-3)) none (.str (S l)) = some (.str (S [x, y, z])) := by
            rw [sl_S (by omega)]
            unfold cutD
            rw [si, show sIxD l.length l.length none = l.length from rfl, e, List.drop_left, List.take_of_length_le (by simp)]
          have s2 : oSl none (some (-3)) (.str (S l)) = some (.str (S a)) := by
            rw [sl_S (by omega)]
            unfold cutD
            rw [si, show sIxD l.length 0 none = 0 from rfl, e, List.drop_zero, Nat.sub_zero, List.take_left]
          have ad : oAdd (.lst [.str (S [x, y, z])]) (.lst (stL ps)) = some (.lst (stL ([x, y, z] :: ps))) := by
            rw [p_addl (by rw [stL_len]; simp only [List.length_cons, List.length_nil]; omega)]
            rfl
          have st : b_law_commas_1 [a0, some (.val (.str (S l))), some (.val (.lst (stL ps))), some (.val d)] = .ok (.nx [a0, some (.val (.str (S a))), some (.val (.lst (stL ([x, y, z] :: ps)))), some (.val d)]) := by
            unfold b_law_commas_1
            simp -implicitDefEqProofs (disch := (first | assumption | omega | (simp only [ngs]; done) | decide)) only [ev, R.bind_ok, R.bind_ex, R.st_ok, R.st_ex, R.of_some, List.length_map, ↓ln, c, ↓n3, ↓s1, ↓s2, ↓ad]
          simp -implicitDefEqProofs (disch := (first | assumption | omega | (simp only [ngs]; done) | decide)) only [ev, R.bind_ok, R.bind_ex, R.st_ok, R.st_ex, R.of_some, List.length_map, st, ih]
theorem join_tl (l : List Nat) : ∀ ps : List (List Nat), Str.join (S [44]) (S l :: ps.map S) = S (l ++ tlL ps)
  | [] => by rw [show tlL [] = [] from rfl, List.append_nil]; rfl
  | p :: ps => by
    show S l ++ S [44] ++ Str.join (S [44]) (S p :: ps.map S) = _
    rw [join_tl p ps, S_app, S_app, List.append_assoc]
    rfl
theorem strs_stL : ∀ ps : List (List Nat), strsD (stL ps) = some (ps.map S)
  | [] => rfl
  | p :: ps => by
    show strsD (.str (S p) :: stL ps) = _
    unfold strsD
    rw [strs_stL ps]
    rfl
theorem str_digits (n : Nat) : ((toString (n : Int) : String) : Str) = S ((Nat.toDigits 10 n).map Char.toNat) := by
  show Str.ofString (toString (n : Int)) = _
  rw [Str.ofString_eq_toList, show toString (n : Int) = n.repr from rfl, Nat.repr_eq_ofList_toDigits, String.toList_ofList]
  rfl
/-- the digits of a number, as signs -/
def dgL (n : Nat) : List Nat := (Nat.toDigits 10 n).map Char.toNat
theorem dgL_len {n : Nat} (h : n < 10 ^ 19) : 0 < (dgL n).length ∧ (dgL n).length ≤ 19 := by
  unfold dgL
  rw [List.length_map]
  exact ⟨Nat.length_toDigits_pos, (Nat.length_toDigits_le_iff (by decide) (by decide)).mpr h⟩
theorem log_ok {n : Nat} (h : n < 10 ^ 19) : n.log2 < 1920 := by
  by_cases h0 : n = 0
  · rw [h0]; decide
  · exact (Nat.log2_lt h0).mpr (Nat.lt_trans h (by decide +kernel))
theorem commas_ok {n : Nat} (h : n < 10 ^ 19) : d_law_commas [.int n] = .ok (.str (S (cmsL (dgL n)))) := by
  obtain ⟨h1, h2⟩ := dgL_len h
  have os : oStrI (.int (n : Int)) = some (.str (S (dgL n))) := by
    show (if ((n : Int)).natAbs.log2 < 1920 then _ else _) = _
    rw [Int.natAbs_natCast, if_pos (log_ok h)]
    show some (D.str ((toString (n : Int) : String) : Str)) = _
    rw [str_digits]
    rfl
  obtain ⟨l', ps', c, e1, e2, e3, e4, lp⟩ := commas_loop (a0 := some (.val (.int n))) 30 ((List.range 30).map fun i : Nat => .int i) (dgL n) [] (by rw [List.length_map, List.length_range]) (by omega) (by omega) (by simp)
  rw [show tlL [] = [] from rfl, List.append_nil] at e1
  have r30 : rngR (.int 30) = .ok ((List.range 30).map fun i : Nat => .int i) := rg_n (k := 30) (by decide)
  have e44 : (("," : Str) : Str) = S [44] := by decide +kernel
  have jn : oJoin (S [44]) (.lst (stL (l' :: ps'))) = some (.str (S (cmsL (dgL n)))) := by
    unfold oJoin
    simp only [strs_stL]
    have hs : ∀ q : List (List Nat), (∀ p ∈ q, p.length ≤ 3) → ((q.map S).map (·.length)).sum ≤ 3 * q.length := fun q => by
      induction q with
      | nil => intro _; exact Nat.le_refl _
      | cons a q ih =>
        intro hq
        have := ih fun p hp => hq p (List.mem_cons_of_mem _ hp)
        have ha := hq a List.mem_cons_self
        rw [List.map_cons, List.map_cons, List.sum_cons, S_len, List.length_cons]
        omega
    have hsum := hs (l' :: ps') fun p hp => by
      rcases List.mem_cons.mp hp with rfl | hp
      · exact e4
      · rcases e3 p hp with h | h
        · cases h
        · omega
    have s1 : (S [44]).length = 1 := rfl
    rw [List.length_cons] at hsum
    rw [if_pos (by rw [s1, List.length_map, List.length_cons, Nat.mul_one]; exact Nat.le_trans (show _ ≤ 1000 by omega) (by decide))]
    rw [List.map_cons, join_tl, e1]
  have ad : oAdd (.lst [.str (S l')]) (.lst (stL ps')) = some (.lst (stL (l' :: ps'))) := by
    rw [p_addl (by rw [stL_len]; simp only [List.length_cons, List.length_nil]; omega)]
    rfl
  have lp : forL (gVar 3) [3] b_law_commas_1 ((List.range 30).map fun i : Nat => .int i) [some (.val (.int n)), some (.val (.str (S (dgL n)))), some (.val (.lst [])), none] = _ := lp
  rw [e_law_commas]
  unfold b_law_commas
  rw [e44]
  simp -implicitDefEqProofs (disch := (first | assumption | omega | (simp only [ngs]; done) | decide)) only [ev, ev2, ev3, R.bind_ok, R.bind_ex, R.st_ok, R.st_ex, R.of_some, List.length_map, ↓os, r30, lp, ↓ad, q_join, jn_s, ↓jn]
theorem pow_sum : ∀ (j : Nat) (ks : List Nat), ks.Nodup → (∀ k ∈ ks, k < j) → (ks.map fun k => 2 ^ k).sum < 2 ^ j
  | 0, ks, _, h => by
    cases ks with
    | nil => decide
    | cons k ks => exact absurd (h k List.mem_cons_self) (Nat.not_lt_zero _)
  | j + 1, ks, nd, h => by
    by_cases hj : j ∈ ks
    · have p := List.perm_cons_erase hj
      have e : (ks.map fun k => 2 ^ k).sum = 2 ^ j + ((ks.erase j).map fun k => 2 ^ k).sum := by
        have := (p.map fun k => 2 ^ k).sum_nat
        rw [this, List.map_cons, List.sum_cons]
      have ih := pow_sum j (ks.erase j) (nd.erase j) fun k hk => by
        have h1 := h k (List.mem_of_mem_erase hk)
        have h2 : k ≠ j := fun z => by rw [z] at hk; exact (nd.not_mem_erase) hk
        omega
      rw [e, Nat.pow_succ]
      omega
    · have ih := pow_sum j ks nd fun k hk => by
        have h1 := h k hk
        have h2 : k ≠ j := fun z => hj (by rw [← z]; exact hk)
        omega
      rw [Nat.pow_succ]
      omega
section
variable {P : List Pn} {m b t k n : Nat} {ws lb nm : List Wd}
theorem cnL_le {T : List Int} : ∀ (ls : List Lnk) (a : Int), (∀ l ∈ ls, 0 ≤ T.getD l.1 0 ∧ T.getD l.1 0 ≤ ((2 ^ l.1 : Nat) : Int)) → a ≤ cnL T ls a ∧ cnL T ls a ≤ a + (((ls.map Prod.fst).map fun k => 2 ^ k).sum : Nat)
  | [], a, _ => by
    show a ≤ a ∧ a ≤ a + ((0 : Nat) : Int)
    omega
  | l :: ls, a, h => by
    obtain ⟨h1, h2⟩ := h l List.mem_cons_self
    have ih := cnL_le ls (if l.2 then a else a + T.getD l.1 0) fun x hx => h x (List.mem_cons_of_mem _ hx)
    have e : cnL T (l :: ls) a = cnL T ls (if l.2 then a else a + T.getD l.1 0) := rfl
    rw [e, List.map_cons, List.map_cons, List.sum_cons]
    by_cases z : l.2 = true
    · rw [if_pos z] at ih ⊢
      omega
    · rw [if_neg z] at ih ⊢
      omega
theorem cn_le (ho : PlanOk m P) : ∀ n, n ≤ P.length → ∀ k, k < n → 0 ≤ (cnTab P b n).getD k 0 ∧ (cnTab P b n).getD k 0 ≤ ((2 ^ k : Nat) : Int)
  | 0, _, k, h => absurd h (Nat.not_lt_zero _)
  | n + 1, hn, k, h => by
    have ih := cn_le ho n (by omega)
    have tl := cnTab_len (P := P) (b := b) n
    have e : cnTab P b (n + 1) = cnTab P b n ++ [cnL (cnTab P b n) (lks P n) (if n = b then 1 else 0)] := rfl
    rw [e, List.getD_eq_getElem?_getD]
    by_cases hk : k < n
    · rw [List.getElem?_append_left (by omega), ← List.getD_eq_getElem?_getD]
      exact ih k hk
    · have hk : k = n := by omega
      subst hk
      rw [List.getElem?_append_right (by omega), tl, Nat.sub_self]
      have hp : P[k]? = some (P[k]'(by omega)) := List.getElem?_eq_getElem (by omega)
      have ok := ho k _ hp
      have lt : ∀ l ∈ lks P k, l.1 < k := by rw [lks_get hp]; exact ok.lt
      have nd : ((lks P k).map Prod.fst).Nodup := by rw [lks_get hp]; exact ok.nd
      have c := cnL_le (T := cnTab P b k) (lks P k) (if k = b then 1 else 0) fun l hl => ih l.1 (lt l hl)
      have s := pow_sum k ((lks P k).map Prod.fst) nd fun x hx => by
        obtain ⟨l, hl, rfl⟩ := List.mem_map.mp hx
        exact lt l hl
      have z : (0 : Int) ≤ (if k = b then 1 else 0) ∧ (if k = b then (1 : Int) else 0) ≤ 1 := by split <;> omega
      show 0 ≤ cnL (cnTab P b k) (lks P k) (if k = b then 1 else 0) ∧ cnL (cnTab P b k) (lks P k) (if k = b then 1 else 0) ≤ _
      omega
theorem sum_le {T : List Int} : ∀ ks : List Nat, (∀ k ∈ ks, 0 ≤ T.getD k 0 ∧ T.getD k 0 ≤ ((2 ^ k : Nat) : Int)) → 0 ≤ (ks.map fun k => T.getD k 0).sum ∧ (ks.map fun k => T.getD k 0).sum ≤ (((ks.map fun k => 2 ^ k).sum : Nat) : Int)
  | [], _ => by simp
  | k :: ks, h => by
    have h1 := h k List.mem_cons_self
    have ih := sum_le ks fun x hx => h x (List.mem_cons_of_mem _ hx)
    rw [List.map_cons, List.map_cons, List.sum_cons, List.sum_cons]
    omega
theorem cc_le (ho : PlanOk m P) (ht : t < P.length) (hP : P.length ≤ 62) : ∃ c : Nat, cc P t b = c ∧ c < 10 ^ 19 := by
  have h1 := cn_le (b := b) ho P.length (Nat.le_refl _) t ht
  have hs : ∀ k ∈ shI P t, k < t := fun k hk => ((mem_shI ho).mp hk).lt ho
  have h2 := sum_le (T := cnTab P b P.length) (shI P t) fun k hk => cn_le ho P.length (Nat.le_refl _) k (by have := hs k hk; omega)
  have h3 := pow_sum t (shI P t) ((List.nodup_range).filter _) hs
  have h4 : 2 ^ t ≤ 2 ^ 61 := Nat.pow_le_pow_right (by decide) (by omega)
  have h5 : (2 : Nat) ^ 61 + 2 ^ 61 < 10 ^ 19 := by decide
  refine ⟨(cc P t b).toNat, ?_, ?_⟩
  · unfold cc; omega
  · unfold cc; omega
end
def padW (w : Wd) : List Nat := w ++ List.replicate (8 - w.length) 32
def padC (n : Nat) : List Nat := List.replicate (26 - (cmsL (dgL n)).length) 32 ++ cmsL (dgL n)
def lnL (w : Wd) (n : Nat) : List Nat := padW w ++ padC n
theorem ljS_S (w : Wd) : ljS (S w) = S (padW w) := rfl
theorem cmsS_S (n : Nat) : cmsS ((Nat.toDigits 10 n).map Char.toNat) = S (padC n) := rfl
theorem grp_len : ∀ (k : Nat) (l : List Nat), l.length ≤ k → (grpR l).length ≤ 2 * l.length
  | 0, l, h => by
    have : l = [] := List.length_eq_zero_iff.mp (by omega)
    subst this
    exact Nat.zero_le _
  | k + 1, l, h => by
    match l, h with
    | [], _ => exact Nat.zero_le _
    | [_], _ => show 1 ≤ 2 * 1; decide
    | [_, _], _ => show 2 ≤ 2 * 2; decide
    | [_, _, _], _ => show 3 ≤ 2 * 3; decide
    | a :: b :: c :: d :: r, h =>
      simp only [List.length_cons] at h
      have ih := grp_len k (d :: r) (by rw [List.length_cons]; omega)
      rw [List.length_cons] at ih
      show (a :: b :: c :: 44 :: grpR (d :: r)).length ≤ _
      simp only [List.length_cons]
      omega
theorem cms_len (l : List Nat) : (cmsL l).length ≤ 2 * l.length := by
  unfold cmsL
  have := grp_len _ l.reverse (Nat.le_refl _)
  rw [List.length_reverse] at this
  rw [List.length_reverse]
  exact this
theorem padC_len {n : Nat} (h : n < 10 ^ 19) : (padC n).length ≤ 64 ∧ 26 ≤ (padC n).length := by
  have h1 := (dgL_len h).2
  have h2 := cms_len (dgL n)
  unfold padC
  rw [List.length_append, List.length_replicate]
  omega
theorem padW_len {w : Wd} (h : w.length ≤ 8) : (padW w).length = 8 := by
  unfold padW
  rw [List.length_append, List.length_replicate]
  omega
theorem line_ok {w : Wd} {n : Nat} (hw : w.length ≤ 8) (h : n < 10 ^ 19) : lineS (.str (S w)) (.int n) = .ok (.str (S (lnL w n))) := by
  have d := dgL_len h
  have e : dgL n = (Nat.toDigits 10 n).map Char.toNat := rfl
  have d1 : 0 < (Nat.toDigits 10 n).length := Nat.length_toDigits_pos
  have d2 : (Nat.toDigits 10 n).length ≤ 19 := by have := d.2; rw [e, List.length_map] at this; exact this
  have p1 := padW_len hw
  have p2 := padC_len h
  show (if _ then R.ok (D.str (Str.empty ++ ljS (S w) ++ cmsS ((Nat.toDigits 10 (n : Int).natAbs).map Char.toNat))) else R.no) = _
  rw [Int.natAbs_natCast, if_pos ⟨hw, ⟨Int.natCast_nonneg n, log_ok h, d1, d2⟩, by rw [ljS_S, S_len]; omega, by rw [cmsS_S, S_len]; omega⟩, ljS_S, cmsS_S]
  have e0 : Str.empty = S [] := rfl
  rw [e0, S_app, S_app]
  rfl
section
variable {P : List Pn} {m b t k n : Nat} {ws lb nm : List Wd}
/-- the line of the class k, in an object of the class t -/
noncomputable def lnK (ws : List Wd) (P : List Pn) (t k : Nat) : List Nat := lnL (ws.getD k []) (cc P t k).toNat
noncomputable def lnsK (ws : List Wd) (P : List Pn) (t n : Nat) : List (List Nat) := ((List.range n).filter fun k => leB P t k).map (lnK ws P t)
theorem lns_succ : lnsK ws P t (n + 1) = if leB P t n then lnsK ws P t n ++ [lnK ws P t n] else lnsK ws P t n := by
  unfold lnsK
  rw [List.range_succ, List.filter_append, List.map_append, List.filter_cons]
  cases leB P t n with
  | true => rw [if_pos rfl, if_pos rfl]; rfl
  | false => rw [if_neg Bool.false_ne_true, if_neg Bool.false_ne_true]; simp
theorem lns_len : (lnsK ws P t n).length ≤ n := by
  unfold lnsK
  rw [List.length_map]
  have := List.length_filter_le (fun k => leB P t k) (List.range n)
  rwa [List.length_range] at this
theorem list_loop (hw : Wds ws) (ho : PlanOk lb.length P) (hP : P.length ≤ ws.length) (h62 : P.length ≤ 62) (ht : t < P.length) : ∀ (N k : Nat), k + N = P.length →
    forL (gVar 4) [4, 5] b_listing_1 ((List.range' k N).map fun i => kiD (clOf ws lb P i)) [some (.val (liD (clsOf ws lb P P.length) nm)), some (.val (.str (S (ws.getD t [])))), some (.val (kiD (clOf ws lb P t))), some (.own (.lst (stL (lnsK ws P t k)))), none, none] =
      .ok (.nx [some (.val (liD (clsOf ws lb P P.length) nm)), some (.val (.str (S (ws.getD t [])))), some (.val (kiD (clOf ws lb P t))), some (.own (.lst (stL (lnsK ws P t (k + N))))), none, none])
  | 0, k, _ => by rw [List.range'_zero, List.map_nil, f_n]; rfl
  | N + 1, k, h => by
    have hk : k < P.length := by omega
    have h4 := hw.l
    have kl := kindle_ok (clOf ws lb P k) (clOf ws lb P t)
    have er : (decide ((clOf ws lb P k).r.t = (clOf ws lb P t).r.t) || decide ((clOf ws lb P k).r.t ∈ (clOf ws lb P t).ab)) = leB P t k := by
      have a1 : decide ((clOf ws lb P k).r.t = (clOf ws lb P t).r.t) = decide (k = t) := by
        rw [decide_eq_decide]
        exact ⟨fun h => winj hw.nd (by omega) (by omega) h, fun h => by rw [h]⟩
      have a2 : decide ((clOf ws lb P k).r.t ∈ (clOf ws lb P t).ab) = decide (Ab P t k) := by
        rw [decide_eq_decide, ← mem_abI ho]
        exact mem_wmap hw.nd (fun x hx => by have := ((mem_abI ho).mp hx).lt ho; omega) (by omega)
      rw [a1, a2]
      rfl
    rw [er] at kl
    have kt : oFld "title" (kiD (clOf ws lb P k)) = some (.str (S (ws.getD k []))) := ki_t _
    have co := count_ok (nm := nm) hw ho hP ht hk
    obtain ⟨c, hc, hc2⟩ := cc_le (b := k) ho ht h62
    rw [hc] at co
    have ln := line_ok (isW_len (hw.w _ (wmem (show k < ws.length by omega)))) hc2
    have ek : lnK ws P t k = lnL (ws.getD k []) c := by unfold lnK; rw [hc]; rfl
    have ll := lns_len (ws := ws) (P := P) (t := t) (n := k)
    have l3 : (stL (lnsK ws P t k)).length < 1000000 := by rw [stL_len]; omega
    have l4 : (lnsK ws P t k).length < 1000000 := by omega
    have ih := list_loop hw ho hP h62 ht N (k + 1) (by omega)
    rw [show k + 1 + N = k + (N + 1) by omega] at ih
    have st : ∃ d, b_listing_1 [some (.val (liD (clsOf ws lb P P.length) nm)), some (.val (.str (S (ws.getD t [])))), some (.val (kiD (clOf ws lb P t))), some (.own (.lst (stL (lnsK ws P t k)))), some (.val (kiD (clOf ws lb P k))), none] = .ok (.nx [some (.val (liD (clsOf ws lb P P.length) nm)), some (.val (.str (S (ws.getD t [])))), some (.val (kiD (clOf ws lb P t))), some (.own (.lst (stL (lnsK ws P t (k + 1))))), some (.val (kiD (clOf ws lb P k))), d]) ∧ (d = none ∨ ∃ v, d = some (.val v)) := by
      rw [lns_succ]
      cases hb : leB P t k with
      | false =>
        rw [hb] at kl
        refine ⟨none, ?_, .inl rfl⟩
        rw [if_neg Bool.false_ne_true]
        unfold b_listing_1
        simp -implicitDefEqProofs (disch := (first | assumption | omega | (simp only [ngs]; done) | decide)) only [ev, ev2, R.bind_ok, R.bind_ex, R.st_ok, R.st_ex, R.of_some, List.length_map, op_kind, kl]
      | true =>
        rw [hb] at kl
        refine ⟨some (.val (.int c)), ?_, .inr ⟨_, rfl⟩⟩
        have es : stL (lnsK ws P t k ++ [lnK ws P t k]) = stL (lnsK ws P t k) ++ [.str (S (lnL (ws.getD k []) c))] := by unfold stL; rw [List.map_append, ek]; rfl
        rw [if_pos rfl, es]
        have el : ∀ a0 a1 a2 a3, eLine (e1 (oFld "title") (eVar 4)) (eVar 5) [a0, a1, a2, a3, some (.val (kiD (clOf ws lb P k))), some (.val (.int c))] = .ok (.str (S (lnL (ws.getD k []) c))) := fun a0 a1 a2 a3 => by
          have ex : e1 (oFld "title") (eVar 4) [a0, a1, a2, a3, some (.val (kiD (clOf ws lb P k))), some (.val (.int c))] = .ok (.str (S (ws.getD k []))) := by simp -implicitDefEqProofs (disch := (first | assumption | omega | (simp only [ngs]; done) | decide)) only [ev, R.bind_ok, R.bind_ex, R.st_ok, R.st_ex, R.of_some, List.length_map, ↓kt]
          have ey : eVar 5 [a0, a1, a2, a3, some (.val (kiD (clOf ws lb P k))), some (.val (.int c))] = .ok (.int c) := rfl
          unfold eLine
          rw [ex, ey]
          simp only [R.bind_ok]
          exact ln
        unfold b_listing_1
        simp -implicitDefEqProofs (disch := (first | assumption | omega | (simp only [ngs]; done) | decide)) only [ev, ev2, R.bind_ok, R.bind_ex, R.st_ok, R.st_ex, R.of_some, List.length_map, op_kind, kl, ↓kt, co, ↓el, lt_ok l3, lt_ok l4]
    obtain ⟨d, st, hd⟩ := st
    rw [List.range'_succ, List.map_cons, f_c]
    rcases hd with rfl | ⟨v, rfl⟩ <;> simp -implicitDefEqProofs (disch := (first | assumption | omega | (simp only [ngs]; done) | decide)) only [ev, R.bind_ok, R.bind_ex, R.st_ok, R.st_ex, R.of_some, List.length_map, st, ih]
theorem listing_ok (hw : Wds ws) (ho : PlanOk lb.length P) (hP : P.length ≤ ws.length) (h62 : P.length ≤ 62) (ht : t < P.length) : d_listing [liD (clsOf ws lb P P.length) nm, .str (S (ws.getD t []))] = .ok (.lst (stL (lnsK ws P t P.length))) := by
  have gi := getitem_ok (lb := lb) (P := P) (nm := nm) hw hP ht
  have lp := list_loop (lb := lb) (nm := nm) (ws := ws) hw ho hP h62 ht P.length 0 (Nat.zero_add _)
  rw [Nat.zero_add, ← List.range_eq_range'] at lp
  have e0 : stL (lnsK ws P t 0) = [] := rfl
  rw [e0] at lp
  have li := li_list (L := clsOf ws lb P P.length) (nm := nm)
  have lm : (clsOf ws lb P P.length).map kiD = (List.range P.length).map fun i => kiD (clOf ws lb P i) := by unfold clsOf; rw [List.map_map]; rfl
  rw [lm] at li
  rw [e_listing]
  unfold b_listing
  simp -implicitDefEqProofs (disch := (first | assumption | omega | (simp only [ngs]; done) | decide)) only [ev, ev2, R.bind_ok, R.bind_ex, R.st_ok, R.st_ex, R.of_some, List.length_map, ixo_li, gi, li, lp]
def t1S (f : Str → D → Option D) (b : DE) (ρ : DEnv) : D → R D
  | .str s => (b ρ).bind fun y => R.of (f s y)
  | _ => .no
theorem q_t1 {f : Str → D → Option D} {a b : DE} {ρ : DEnv} : eT1 f a b ρ = (a ρ).bind (t1S f b ρ) := by
  unfold eT1
  cases a ρ with
  | ok d => cases d <;> rfl
  | _ => rfl
theorem t1_s {f : Str → D → Option D} {b : DE} {ρ : DEnv} {s : Str} : t1S f b ρ (.str s) = (b ρ).bind fun y => R.of (f s y) := rfl
theorem due_loop {c0 c1 c2 : Option Slot} {n : Nat} (hw : Wds ws) (ho : PlanOk lb.length P) (hP : P.length ≤ ws.length) (h62 : P.length ≤ 62) (ht : t < P.length) {T : List (List Nat)} (hT : T.length = P.length) (hS : ShT P T) {F1 : List Nat} (hF : ∀ x, x ∈ F1 ↔ Ab P t x) {lib : D} : ∀ (N k : Nat), k + N = P.length →
    forL (gVar 11) [11, 12, 13] b_law_1 ((List.range' k N).map fun i : Nat => .int i) [c0, c1, c2, some (.val (.int n)), some (.val (plnD P)), some (.val (.lst (stL ws))), some (.val lib), some (.val (ttD T)), some (.val (.int t)), some (.val (.lst (niL (t :: F1)))), some (.own (.lst (stL (lnsK ws P t k)))), none, none, none, none, none, none] =
      .ok (.nx [c0, c1, c2, some (.val (.int n)), some (.val (plnD P)), some (.val (.lst (stL ws))), some (.val lib), some (.val (ttD T)), some (.val (.int t)), some (.val (.lst (niL (t :: F1)))), some (.own (.lst (stL (lnsK ws P t (k + N))))), none, none, none, none, none, none])
  | 0, k, _ => by rw [List.range'_zero, List.map_nil, f_n]; rfl
  | N + 1, k, h => by
    have hk : k < P.length := by omega
    have h4 := hw.l
    have ii := in_ni k (t :: F1)
    have er : decide (k ∈ t :: F1) = leB P t k := by
      unfold leB
      rw [← Bool.decide_or, decide_eq_decide, List.mem_cons, hF]
    rw [er] at ii
    obtain ⟨c, hc, hc2⟩ := cc_le (b := k) ho ht h62
    have lc := law_counts_ok (b := k) ho (by omega : P.length ≤ 100)
    have tot := cc_law ho hT hS ht (b := k)
    have cl := cnTab_len (P := P) (b := k) P.length
    have g1 : ((cnTab P k P.length).map D.int)[t]? = some (.int ((cnTab P k P.length).getD t 0)) := mapG (getD_some (by omega))
    have t1 := tt_at (T := T) (by omega : t < T.length)
    have it : iterD (.lst (niL (T.getD t []))) = some (niL (T.getD t [])) := rfl
    have hTl : ∀ r ∈ T.getD t [], r < P.length := fun r hr => by
      have := ((hS.mem t (by omega) r).mp hr).lt ho
      omega
    have tl : (T.getD t []).length ≤ 100 := by
      have := nd_len (m := List.range P.length) (hS.few t (by omega)).nd fun r hr => List.mem_range.mpr (hTl r hr)
      rw [List.length_range] at this
      omega
    have cm : ∀ d0 d1 d2 d3 d4 d5 d6 d7 d8 d9 d10 d11 d13 d14 d15, compS (gVar 16) tYesD (e2 oIx (eVar 12) (eVar 16)) [16] [d0, d1, d2, d3, d4, d5, d6, d7, d8, d9, d10, d11, some (.val (.lst ((cnTab P k P.length).map D.int))), d13, d14, d15, none] (niL (T.getD t [])) = .ok (.lst (((T.getD t []).map fun r => (cnTab P k P.length).getD r 0).map D.int)) := by
      intro d0 d1 d2 d3 d4 d5 d6 d7 d8 d9 d10 d11 d13 d14 d15
      rw [List.map_map]
      refine comp_map (fun r : Nat => .int r) (fun r => .int ((cnTab P k P.length).getD r 0)) (by omega) rfl (fun r hr => ?_)
      have hr := hTl r hr
      have gr : ((cnTab P k P.length).map D.int)[r]? = some (.int ((cnTab P k P.length).getD r 0)) := mapG (getD_some (by omega))
      unfold cStep
      simp -implicitDefEqProofs (disch := (first | assumption | omega | (simp only [ngs]; done) | decide)) only [ev, R.bind_ok, R.bind_ex, R.st_ok, R.st_ex, R.of_some, List.length_map, gr, if_true]
    have cmm := commas_ok hc2
    have xw := stL_at (ws := ws) (k := k) (by omega)
    have wl := isW_len (hw.w _ (wmem (show k < ws.length by omega)))
    have p1 := padW_len wl
    have p2 := padC_len hc2
    have lj : fLjust (S (ws.getD k [])) (.int 8) = some (.str (S (padW (ws.getD k [])))) := by
      show (if PadOk 8 = true then some (D.str (Txt.ljust (S (ws.getD k [])) 8)) else none) = _
      rw [if_pos (by decide +kernel)]
      unfold Txt.ljust
      by_cases h8 : (8 : Int) ≤ (S (ws.getD k [])).length
      · rw [if_pos h8]
        rw [S_len] at h8
        unfold padW
        rw [show 8 - (ws.getD k []).length = 0 by omega, List.replicate_zero, List.append_nil]
      · rw [if_neg h8]
        unfold Builtin.Str.padded
        rw [S_len]
        unfold padW S
        simp
    have rj : fRjust (S (cmsL (dgL c))) (.int 26) = some (.str (S (padC c))) := by
      show (if PadOk 26 = true then some (D.str (Txt.rjust (S (cmsL (dgL c))) 26)) else none) = _
      rw [if_pos (by decide +kernel)]
      unfold Txt.rjust
      by_cases h8 : (26 : Int) ≤ (S (cmsL (dgL c))).length
      · rw [if_pos h8]
        rw [S_len] at h8
        unfold padC
        rw [show 26 - (cmsL (dgL c)).length = 0 by omega, List.replicate_zero, List.nil_append]
      · rw [if_neg h8]
        unfold Builtin.Str.padded
        rw [S_len]
        unfold padC S
        simp
    have ad : oAdd (.str (S (padW (ws.getD k [])))) (.str (S (padC c))) = some (.str (S (lnL (ws.getD k []) c))) := by
      rw [p_adds (by rw [S_len, S_len]; omega), S_app]
      rfl
    have ek : lnK ws P t k = lnL (ws.getD k []) c := by unfold lnK; rw [hc]; rfl
    have ll := lns_len (ws := ws) (P := P) (t := t) (n := k)
    have l3 : (stL (lnsK ws P t k)).length < 1000000 := by rw [stL_len]; omega
    have l4 : (lnsK ws P t k).length < 1000000 := by omega
    have ih := due_loop (c0 := c0) (c1 := c1) (c2 := c2) (n := n) (lib := lib) hw ho hP h62 ht hT hS hF N (k + 1) (by omega)
    rw [show k + 1 + N = k + (N + 1) by omega] at ih
    have st : ∃ d12 d13, b_law_1 [c0, c1, c2, some (.val (.int n)), some (.val (plnD P)), some (.val (.lst (stL ws))), some (.val lib), some (.val (ttD T)), some (.val (.int t)), some (.val (.lst (niL (t :: F1)))), some (.own (.lst (stL (lnsK ws P t k)))), some (.val (.int k)), none, none, none, none, none] = .ok (.nx [c0, c1, c2, some (.val (.int n)), some (.val (plnD P)), some (.val (.lst (stL ws))), some (.val lib), some (.val (ttD T)), some (.val (.int t)), some (.val (.lst (niL (t :: F1)))), some (.own (.lst (stL (lnsK ws P t (k + 1))))), some (.val (.int k)), d12, d13, none, none, none]) ∧ (d12 = none ∧ d13 = none ∨ ∃ v w, d12 = some (.val v) ∧ d13 = some (.val w)) := by
      rw [lns_succ]
      cases hb : leB P t k with
      | false =>
        rw [hb] at ii
        refine ⟨none, none, ?_, .inl ⟨rfl, rfl⟩⟩
        rw [if_neg Bool.false_ne_true]
        unfold b_law_1
        simp -implicitDefEqProofs (disch := (first | assumption | omega | (simp only [ngs]; done) | decide)) only [ev, ev2, R.bind_ok, R.bind_ex, R.st_ok, R.st_ex, R.of_some, List.length_map, ↓ii]
      | true =>
        rw [hb] at ii
        refine ⟨some (.val (.lst ((cnTab P k P.length).map D.int))), some (.val (.int c)), ?_, .inr ⟨_, _, rfl, rfl⟩⟩
        have es : stL (lnsK ws P t k ++ [lnK ws P t k]) = stL (lnsK ws P t k) ++ [.str (S (lnL (ws.getD k []) c))] := by unfold stL; rw [List.map_append, ek]; rfl
        rw [if_pos rfl, es]
        unfold b_law_1
        unfold ttD
        simp -implicitDefEqProofs (disch := (first | assumption | omega | (simp only [ngs]; done) | decide)) only [ev, ev2, R.bind_ok, R.bind_ex, R.st_ok, R.st_ex, R.of_some, List.length_map, ↓ii, lc, g1, t1, ↓it, cm, sum_ints, tot, hc, xw, q_t1, t1_s, ↓lj, cmm, ↓rj, ↓ad, lt_ok l3, lt_ok l4]
    obtain ⟨d12, d13, st, hd⟩ := st
    rw [List.range'_succ, List.map_cons, f_c]
    rcases hd with ⟨rfl, rfl⟩ | ⟨v, w, rfl, rfl⟩ <;> simp -implicitDefEqProofs (disch := (first | assumption | omega | (simp only [ngs]; done) | decide)) only [ev, R.bind_ok, R.bind_ex, R.st_ok, R.st_ex, R.of_some, List.length_map, st, ih]
end
theorem char_lt (c : Char) : c.toNat < 0x110000 := by
  have h := c.valid
  unfold UInt32.isValidChar Nat.isValidChar at h
  show c.val.toNat < 0x110000
  omega
theorem ok_S {l : List Nat} (h : ∀ x ∈ l, x < 0x110000) : strOkD (S l) = true := by
  show (l.toArray).all (fun x => decide (x < 0x110000)) = true
  rw [List.all_toArray, List.all_eq_true]
  exact fun x hx => decide_eq_true (h x hx)
theorem grp_mem : ∀ (k : Nat) (l : List Nat), l.length ≤ k → ∀ x ∈ grpR l, x = 44 ∨ x ∈ l
  | 0, l, h, x, hx => by
    have : l = [] := List.length_eq_zero_iff.mp (by omega)
    subst this
    exact .inr hx
  | k + 1, l, h, x, hx => by
    match l, h, hx with
    | [], _, hx => exact .inr hx
    | [_], _, hx => exact .inr hx
    | [_, _], _, hx => exact .inr hx
    | [_, _, _], _, hx => exact .inr hx
    | a :: b :: c :: d :: r, h, hx =>
      simp only [List.length_cons] at h
      have hx : x ∈ a :: b :: c :: 44 :: grpR (d :: r) := hx
      simp only [List.mem_cons] at hx
      rcases hx with h1 | h1 | h1 | h1 | h1
      · exact .inr (by rw [h1]; exact List.mem_cons_self)
      · exact .inr (by rw [h1]; simp)
      · exact .inr (by rw [h1]; simp)
      · exact .inl h1
      · rcases grp_mem k (d :: r) (by rw [List.length_cons]; omega) x h1 with h2 | h2
        · exact .inl h2
        · exact .inr (List.mem_cons_of_mem _ (List.mem_cons_of_mem _ (List.mem_cons_of_mem _ h2)))
theorem line_chars {w : Wd} (hw : isW w = true) (n : Nat) : ∀ x ∈ lnL w n, x < 0x110000 := fun x hx => by
  have hs := shp_str hw 58
  have hs : strOkD (S w) = true := hs
  have hs : (w.toArray).all (fun x => decide (x < 0x110000)) = true := hs
  rw [List.all_toArray, List.all_eq_true] at hs
  unfold lnL padW padC at hx
  rcases List.mem_append.mp hx with h | h
  · rcases List.mem_append.mp h with h | h
    · exact of_decide_eq_true (hs x h)
    · rw [(List.mem_replicate.mp h).2]; decide
  · rcases List.mem_append.mp h with h | h
    · rw [(List.mem_replicate.mp h).2]; decide
    · unfold cmsL at h
      rcases grp_mem _ _ (Nat.le_refl _) x (List.mem_reverse.mp h) with h | h
      · rw [h]; decide
      · have h := List.mem_reverse.mp h
        unfold dgL at h
        obtain ⟨c, _, rfl⟩ := List.mem_map.mp h
        exact char_lt c
theorem lnL_len {w : Wd} {n : Nat} (hw : w.length ≤ 8) (h : n < 10 ^ 19) : 34 ≤ (lnL w n).length := by
  have := padW_len hw
  have := padC_len h
  unfold lnL
  rw [List.length_append]
  omega
section
variable {P : List Pn} {t n : Nat} {ws lb nm : List Wd}
theorem lns_all (hw : Wds ws) (ho : PlanOk lb.length P) (hP : P.length ≤ ws.length) (h62 : P.length ≤ 62) (ht : t < P.length) : ∀ l ∈ lnsK ws P t P.length, 34 ≤ l.length ∧ ∀ x ∈ l, x < 0x110000 := fun l hl => by
  obtain ⟨k, hk, rfl⟩ := List.mem_map.mp hl
  have hk := List.mem_range.mp (List.mem_filter.mp hk).1
  have hwk := hw.w _ (wmem (show k < ws.length by omega))
  obtain ⟨c, hc, hc2⟩ := cc_le (b := k) ho ht h62
  have ek : lnK ws P t k = lnL (ws.getD k []) c := by unfold lnK; rw [hc]; rfl
  rw [ek]
  exact ⟨lnL_len (isW_len hwk) hc2, line_chars hwk c⟩
theorem lns_ne (ht : t < P.length) : lnsK ws P t P.length ≠ [] := fun z => by
  have : lnK ws P t t ∈ lnsK ws P t P.length := List.mem_map.mpr ⟨t, List.mem_filter.mpr ⟨List.mem_range.mpr ht, by unfold leB; rw [decide_eq_true rfl]; rfl⟩, rfl⟩
  rw [z] at this
  cases this
theorem neL_words (hw : Wds ws) : ∀ {L : List (List Nat)}, L ≠ [] → (∀ l ∈ L, 34 ≤ l.length) → neL (stL L) (stL ws) = true := fun {L} hn hl => by
  cases L with
  | nil => exact absurd rfl hn
  | cons l L =>
    cases ws with
    | nil => rfl
    | cons w W =>
      show (neD (.str (S l)) (.str (S w)) || neL (stL L) (stL W)) = true
      have h1 := hl l List.mem_cons_self
      have h2 := isW_len (hw.w w List.mem_cons_self)
      have : neD (.str (S l)) (.str (S w)) = true := by
        show (!(S l == S w)) = true
        have : (S l == S w) = false := beq_eq_false_iff_ne.mpr fun e => by
          have := congrArg Str.length e
          rw [S_len, S_len] at this
          omega
        rw [this]; rfl
      rw [this, Bool.true_or]
theorem neL_kinds {L : List (List Nat)} {C : List CL} (hn : L ≠ []) : neL (stL L) (C.map kiD) = true := by
  cases L with
  | nil => exact absurd rfl hn
  | cons l L => cases C <;> rfl
end
theorem sub_strs12 : ∀ l : List Wd, subDs (stL l) = []
  | [] => rfl
  | _ :: l => sub_strs12 l
theorem sub_kis12 : ∀ L : List CL, subDs (L.map kiD) = []
  | [] => rfl
  | c :: L => by
    have sb : ∀ l : List BS, subDs (l.map bD) = [] := fun l => by
      induction l with
      | nil => rfl
      | cons a l ih => exact ih
    show subDs (stL c.r.ns) ++ (subDs (stL c.r.ss) ++ (subDs (c.r.bs.map bD) ++ (subDs (stL c.ab) ++ (subDs (stL c.sh) ++ [])))) ++ subDs (L.map kiD) = []
    rw [sub_strs12, sub_strs12, sb, sub_strs12, sub_strs12, sub_kis12 L]
    rfl
theorem own12 {ws nm : List Wd} {C : List CL} {L : List (List Nat)} {t : Int} {i : Nat} {ρ : DEnv} (hw : Wds ws) (hn : L ≠ []) (hl : ∀ l ∈ L, 34 ≤ l.length) :
    ownXS i (subD (.lst (stL ws)) ++ (subD (liD C nm) ++ (subD (.int t) ++ []))) ρ (.lst (stL L)) = (setO i (.lst (stL L)) ρ).bind fun ρ' => .ok (.nx ρ') := by
  refine ox_l (by rw [sub_strs12]; rfl) ?_
  rw [List.all_eq_true]
  intro k hk
  have ii : ∀ l : List Nat, subDs (l.map fun i : Nat => D.int i) = [] := fun l => by
    induction l with
    | nil => rfl
    | cons a l ih => exact ih
  have pl : subD (plD (ttl C)) = [] := ii _
  have e : subD (.lst (stL ws)) ++ (subD (liD C nm) ++ (subD (.int t) ++ [])) = (stL ws :: subDs (stL ws)) ++ (((C.map kiD :: subDs (C.map kiD)) ++ (subD (plD (ttl C)) ++ (subDs (stL nm) ++ []))) ++ []) := rfl
  rw [e, sub_strs12, sub_kis12, pl, sub_strs12] at hk
  have hk : k ∈ [stL ws, C.map kiD] := hk
  simp only [List.mem_cons, List.not_mem_nil, or_false] at hk
  rcases hk with rfl | rfl
  · exact neL_words hw hn hl
  · exact neL_kinds hn
theorem law_ok (ns : List Int) (hlen : ns.length ≤ 63) : d_law [.scr ns] = .ok (.bl true) := by
  obtain ⟨c, hc⟩ := law_cell_ok ns 0 (by decide)
  obtain ⟨row, hrow, hrl, hB⟩ := law_row_ok c 1 [4, 61, 1664, 8] (by decide) (by decide)
  have hrl : row.length = 4 := hrl
  have gx : ∀ k : Nat, k < 4 → atD (row.map D.int) (k : Int) = some (.int (row.getD k 0)) := fun k hk => at_eq (n := k) (mapG (getD_some (by omega))) rfl
  have x0 : atD (row.map D.int) 0 = some (.int (row.getD 0 0)) := gx 0 (by decide)
  have x1 : atD (row.map D.int) 1 = some (.int (row.getD 1 0)) := gx 1 (by decide)
  have x2 : atD (row.map D.int) 2 = some (.int (row.getD 2 0)) := gx 2 (by decide)
  have x3 : atD (row.map D.int) 3 = some (.int (row.getD 3 0)) := gx 3 (by decide)
  obtain ⟨a0, a1⟩ := hB 0 _ 4 (getD_some (l := row) (k := 0) (by omega)) rfl
  obtain ⟨b0, b1⟩ := hB 1 _ 61 (getD_some (l := row) (k := 1) (by omega)) rfl
  obtain ⟨s0, s1⟩ := hB 2 _ 1664 (getD_some (l := row) (k := 2) (by omega)) rfl
  obtain ⟨d0, d1⟩ := hB 3 _ 8 (getD_some (l := row) (k := 3) (by omega)) rfl
  generalize row.getD 0 0 = r0 at x0 a0 a1
  generalize row.getD 1 0 = r1 at x1 b0 b1
  generalize row.getD 2 0 = s at x2 s0 s1
  generalize row.getD 3 0 = r3 at x3 d0 d1
  obtain ⟨st, hst, hs⟩ : ∃ st : Int, atD [D.int 0, D.int 1, D.int 2, D.int 0] r0 = some (.int st) ∧ (st = 0 ∨ st = 1 ∨ st = 2) := by
    have : r0 = 0 ∨ r0 = 1 ∨ r0 = 2 ∨ r0 = 3 := by omega
    rcases this with rfl | rfl | rfl | rfl
    · exact ⟨0, rfl, .inl rfl⟩
    · exact ⟨1, rfl, .inr (.inl rfl)⟩
    · exact ⟨2, rfl, .inr (.inr rfl)⟩
    · exact ⟨0, rfl, .inl rfl⟩
  obtain ⟨md, hmd, md1, md2⟩ : ∃ md : Int, atD [D.int 15, D.int 21, D.int 29] st = some (.int md) ∧ 0 < md ∧ md ≤ 29 := by
    rcases hs with rfl | rfl | rfl
    · exact ⟨15, rfl, by decide, by decide⟩
    · exact ⟨21, rfl, by decide, by decide⟩
    · exact ⟨29, rfl, by decide, by decide⟩
  have q1 := Int.emod_nonneg r1 (show md ≠ 0 by omega)
  have q2 := Int.emod_lt_of_pos r1 md1
  have hmod : oMod (.int r1) (.int md) = some (.int (r1 % md)) := p_mod md1
  generalize hsz : 2 + r1 % md = sz
  obtain ⟨n, n2, n62, ifn⟩ : ∃ n : Nat, 2 ≤ n ∧ n ≤ 62 ∧ ∀ c0 c4 c5 c6 c7 c8 c9 c10 c11 c12 c13 c14 c15 c16, sIf (tAndD (tVal (e2 oEq (eVar 2) (eC (.int 2)))) (tVal (e2 oEq (e2 oIx (eVar 1) (eC (.int 3))) (eC (.int 5))))) (sSet 3 (eC (.int 62))) sNext [c0, some (.val (.lst (row.map D.int))), some (.val (.int st)), some (.val (.int sz)), c4, c5, c6, c7, c8, c9, c10, c11, c12, c13, c14, c15, c16] = .ok (.nx [c0, some (.val (.lst (row.map D.int))), some (.val (.int st)), some (.val (.int n)), c4, c5, c6, c7, c8, c9, c10, c11, c12, c13, c14, c15, c16]) := by
    by_cases h2 : st = 2
    · by_cases h3 : r3 = 5
      · refine ⟨62, by decide, by decide, fun c0 c4 c5 c6 c7 c8 c9 c10 c11 c12 c13 c14 c15 c16 => ?_⟩
        simp -implicitDefEqProofs (disch := (first | assumption | omega | (simp only [ngs]; done) | decide)) only [ev, R.bind_ok, R.bind_ex, R.st_ok, R.st_ex, R.of_some, List.length_map, x3, decide_eq_true h2, decide_eq_true h3]
        rfl
      · refine ⟨sz.toNat, by omega, by omega, fun c0 c4 c5 c6 c7 c8 c9 c10 c11 c12 c13 c14 c15 c16 => ?_⟩
        simp -implicitDefEqProofs (disch := (first | assumption | omega | (simp only [ngs]; done) | decide)) only [ev, R.bind_ok, R.bind_ex, R.st_ok, R.st_ex, R.of_some, List.length_map, x3, decide_eq_true h2, decide_eq_false h3, show ((sz.toNat : Nat) : Int) = sz by omega]
    · refine ⟨sz.toNat, by omega, by omega, fun c0 c4 c5 c6 c7 c8 c9 c10 c11 c12 c13 c14 c15 c16 => ?_⟩
      simp -implicitDefEqProofs (disch := (first | assumption | omega | (simp only [ngs]; done) | decide)) only [ev, R.bind_ok, R.bind_ex, R.st_ok, R.st_ex, R.of_some, List.length_map, x3, decide_eq_false h2, show ((sz.toNat : Nat) : Int) = sz by omega]
  obtain ⟨P, hP, ho, hA, hplan⟩ := law_dense_ok ns 1 n st hs (by decide) (by omega)
  obtain ⟨ws, hw, hwl, hwd⟩ := words_ok s0 n62
  subst hP
  obtain ⟨t, ht, ift⟩ : ∃ t : Nat, t < P.length ∧ ∀ c0 c4 c5 c6 c7 c9 c10 c11 c12 c13 c14 c15 c16, sIf (tVal (e2 oGt (e2 oIx (eVar 1) (eC (.int 3))) (eC (.int 5)))) (sSet 8 (e2 oMod (e2 oAdd (e2 oMul (e2 oIx (eVar 1) (eC (.int 1))) (eC (.int 7))) (e2 oIx (eVar 1) (eC (.int 3)))) (eVar 3))) sNext [c0, some (.val (.lst (row.map D.int))), some (.val (.int st)), some (.val (.int P.length)), c4, c5, c6, c7, some (.val (.int ((P.length : Int) - 1))), c9, c10, c11, c12, c13, c14, c15, c16] = .ok (.nx [c0, some (.val (.lst (row.map D.int))), some (.val (.int st)), some (.val (.int P.length)), c4, c5, c6, c7, some (.val (.int t)), c9, c10, c11, c12, c13, c14, c15, c16]) := by
    by_cases h5 : r3 > 5
    · have h1 := Int.emod_nonneg (r1 * 7 + r3) (show (P.length : Int) ≠ 0 by omega)
      have h2 := Int.emod_lt_of_pos (r1 * 7 + r3) (show (0 : Int) < P.length by omega)
      have mu : oMul (.int r1) (.int 7) = some (.int (r1 * 7)) := by
        show (if w64 r1 ∨ w64 7 then some (D.int (r1 * 7)) else none) = _
        rw [if_pos (.inr ⟨by decide, by decide⟩)]
      have om : oMod (.int (r1 * 7 + r3)) (.int P.length) = some (.int ((r1 * 7 + r3) % P.length)) := p_mod (by omega)
      refine ⟨((r1 * 7 + r3) % P.length).toNat, by omega, fun c0 c4 c5 c6 c7 c9 c10 c11 c12 c13 c14 c15 c16 => ?_⟩
      simp -implicitDefEqProofs (disch := (first | assumption | omega | (simp only [ngs]; done) | decide)) only [ev, R.bind_ok, R.bind_ex, R.st_ok, R.st_ex, R.of_some, List.length_map, x1, x3, mu, om, decide_eq_true h5, show ((((r1 * 7 + r3) % P.length).toNat : Nat) : Int) = (r1 * 7 + r3) % P.length by omega]
    · refine ⟨P.length - 1, by omega, fun c0 c4 c5 c6 c7 c9 c10 c11 c12 c13 c14 c15 c16 => ?_⟩
      simp -implicitDefEqProofs (disch := (first | assumption | omega | (simp only [ngs]; done) | decide)) only [ev, R.bind_ok, R.bind_ex, R.st_ok, R.st_ex, R.of_some, List.length_map, x3, decide_eq_false h5, show ((P.length - 1 : Nat) : Int) = (P.length : Int) - 1 by omega]
  have hdr := law_draftsD_ok hw (by omega : P.length ≤ ws.length) ho
  have hli := lib_ok hw Wds.nil ho (by omega : P.length ≤ ws.length) (by decide)
  obtain ⟨T, hT, hS, hsh⟩ := law_shared_ok ho (by omega)
  obtain ⟨F1, hF, _, hab⟩ := law_above_ok ho (by omega) ht
  have hli2 := listing_ok (nm := nmsOf ws [] P) (lb := []) hw ho (by omega) n62 ht
  have lp := fun c0 c1 c2 => due_loop (c0 := c0) (c1 := c1) (c2 := c2) (n := P.length) (lib := liD (clsOf ws [] P P.length) (nmsOf ws [] P)) (lb := []) hw ho (by omega) n62 ht hT hS hF P.length 0 (by omega)
  rw [← List.range_eq_range', Nat.zero_add, show stL (lnsK ws P t 0) = [] from rfl] at lp
  have hl := lns_all (lb := []) hw ho (by omega : P.length ≤ ws.length) n62 ht
  have hn := lns_ne (ws := ws) ht
  generalize lnsK ws P t P.length = L at hli2 lp hl hn
  have wt := stL_at (ws := ws) (k := t) (by omega)
  have ow := fun i ρ => own12 (i := i) (ρ := ρ) (t := t) (C := clsOf ws [] P P.length) (nm := nmsOf ws [] P) hw hn fun l h => (hl l h).1
  have il : oIsi "list" (.lst (stL L)) = some (.bl true) := rfl
  have ne : oNe (.lst (stL L)) (.lst (stL L)) = some (.bl false) := by
    refine ne_self ?_
    show (stL L).all (shp 59) = true
    unfold stL
    rw [List.all_map, List.all_eq_true]
    intro l h
    exact ok_S (hl l h).2
  have p9 : P.length < 1000000000 := by omega
  have hrow : d_law_row [.int c, .int 1, .lst [.int 4, .int 61, .int 1664, .int 8]] = .ok (.lst (row.map D.int)) := hrow
  have hplan : d_law_dense [.scr ns, .int 1, .int P.length, .int 0, .int st] = .ok (plnD P) := hplan
  have wc := fun c2 c3 c4 c6 c7 c8 c9 c10 c12 c13 c14 c15 c16 => word_comp (e := e2 oIx (eVar 1) (eC (.int 2))) (j := 11) (ρ := [some (.val (.scr ns)), some (.val (.lst (row.map D.int))), c2, c3, c4, none, c6, c7, c8, c9, c10, none, c12, c13, c14, c15, c16]) hwl (by omega) hwd rfl (fun x => ⟨_, rfl, by simp -implicitDefEqProofs (disch := (first | assumption | omega | (simp only [ngs]; done) | decide)) only [ev, R.bind_ok, R.bind_ex, R.st_ok, R.st_ex, R.of_some, List.length_map, x2], rfl⟩)
  rw [e_law]
  unfold b_law
  unfold ttD at lp
  have rg2 : rngR (.int 2) = .ok [.int 0, .int 1] := rfl
  unfold b_law_2
  simp -implicitDefEqProofs (disch := (first | assumption | omega | (simp only [ngs]; done) | decide)) only [ev, ev2, ev3, R.bind_ok, R.bind_ex, R.st_ok, R.st_ex, R.of_some, List.length_map, rg2, f_c, f_n, hc, hrow, x0, x1, x3, hst, hmd, hmod, hsz, ↓ifn, hplan, rg_n p9, wc, hdr, hli, hsh, ↓ift, hab, lp, hli2, wt, q_ownX, ow, il, truD_b, ne]
end Tw

set_option maxHeartbeats 0
open PySem PySem.W PySem.Calls PyProof.Rows
theorem PySem.Challenge.cw_twicebased_k12_listing_holds : PySem.Challenge.rw_twicebased_k12_listing.Holds := by
  w_on; o_law
  refine HandSHeadRun.head_any (r := PySem.W.OpenLaw.row PySem.Challenge.rw_twicebased_k12_listing) (q := PySem.W.view (PySem.W.OpenLaw.row PySem.Challenge.rw_twicebased_k12_listing).prog [38]) (H := Tw.hkT) (ob := Tw.obT) (M := 30000) (loose := Tw.nm) (d := HandSHeadRun.topDef (PySem.W.OpenLaw.row PySem.Challenge.rw_twicebased_k12_listing).prog 38) (kwd := []) Tw.obT_eq
    (by kernel_rfl) (fun s => by kernel_rfl) Tw.runT (by kernel_rfl) (by kernel_rfl) (by kernel_rfl) (by rfl) (by first | assumption | decide +kernel) (by decide +kernel) ⟨rfl, rfl, rfl, rfl, rfl, by decide +kernel⟩ ?hw ?hc
  case hw => w_witness2
  case hc =>
    refine L2.walk_ofE (l := PySem.Challenge.rw_twicebased_k12_listing) (n := 63) (k := 9) (x := "_law_script") (CX := Tw.CXw (PySem.Challenge.rw_twicebased_k12_listing).prog) rfl (by decide) (by kernel_rfl) ⟨rfl, by decide, by decide⟩ ?F (fun _ _ _ _ z => z.no)
    intro w mg fa h Y G hmg0
    obtain ⟨K, KX, c⟩ := Y
    have hmg : mg ("law" : PySem.Str) = some (.ref fa) := by
      have e : (HandSHeadRun.topDef (PySem.W.OpenLaw.row PySem.Challenge.rw_twicebased_k12_listing).prog 38).name = ("law" : PySem.Str) := by kernel_rfl
      rw [← e]
      exact hmg0
    have F := Tw.fx_of KX G c
    have e := hmg.symm.trans F.g_law
    cases e
    have b := L2.FunD.bindsA (ps := ["_law_script"]) F.d_law.choose_spec fun _ _ _ _ _ _ us hl => match us, hl with | [_], _ => rfl
    exact ⟨K, F.d_law.choose, Tw.dsp (Tw.gg F) Tw.d_law, KX, fun s v => b s [v] rfl, fun H a ns hl _ hS => Tw.law_sp F Tw.law_ok H a ns hl hS, fun base _ _ => Tw.FnOk.anyW (Tw.f_law (w := w) (base := base) F).2.1⟩
